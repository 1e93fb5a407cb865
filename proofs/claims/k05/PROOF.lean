import PyProof.Rows.All
import Wide.All
import OpenK.AllK
import Wide.FinOn
import HandS.ForMost
import HandS.ForExc
import HandS.Wide
import HandS.IsInst
import HandS.TupAny
import HandS.TupMul
import HandS.Style
import HandS.Defaults
import HandS.MakeKw
import HandS.MakeKwOnly
import HandS.ListEq
import HandS.Star
import HandS.Conv
import PySem.Challenge.RW_goldenrows_k05_signs_of_rows
set_option Elab.async false
set_option linter.all false
set_option maxRecDepth 100000
set_option maxHeartbeats 0
/-! DL1: data-level readings over HandS. Values as plain data (D), slots as SV; F: the part of the heap that never changes any more. -/
namespace DL
open PySem L2

inductive D where
  | non | bl (b : Bool) | int (i : Int) | str (x : Str) | ty (n : String)
  | tup (l : List D) | lst (l : List D) | ins (C : Addr) (fs : List (Str × D)) | obj (a : Addr) | scr (ns : List Int) | bag (a : Addr)

/-- a bag of the law: a list of three numbers, from 0 on -/
def BagP (a : Addr) (h : Heap) : Prop := ∃ (p q r : Nat) (t u v : Tok) (n : Nat), h.get? a = some { cls := .type "list", data := .seq #[.int (p : Int) t, .int (q : Int) u, .int (r : Int) v] n }
def BagO (a : Addr) : HO := .ext (BagP a)

mutual
inductive Rep (K : PySem.W.Frag) (F : Hp) : V → D → Prop
  | non : Rep K F .non .non
  | bl (b : Bool) : Rep K F (.bl b) (.bl b)
  | int (i : Int) : Rep K F (.int i) (.int i)
  | str (x : Str) : Rep K F (.str x) (.str x)
  | ty (n : String) : Rep K F (.ty n) (.ty n)
  | tup {a : Addr} {xs : List V} {l : List D} : SqT K F a xs → RepA K F xs l → Rep K F (.ref a) (.tup l)
  | lst {a : Addr} {xs : List V} {l : List D} : F a = some (.lst xs) → RepA K F xs l → Rep K F (.ref a) (.lst l)
  | ins {a C dx : Addr} {xs : List (Str × V)} {fs : List (Str × D)} : F a = some (.ins C dx xs) → RepF K F xs fs → Rep K F (.ref a) (.ins C fs)
  | obj (a : Addr) : Rep K F (.ref a) (.obj a)
  | scr {a : Addr} {ns : List Int} : SqL K F a (ns.map V.int) → Rep K F (.ref a) (.scr ns)
  | bag {a : Addr} : F a = some (BagO a) → Rep K F (.ref a) (.bag a)
inductive RepA (K : PySem.W.Frag) (F : Hp) : List V → List D → Prop
  | nil : RepA K F [] []
  | cons {v : V} {vs : List V} {d : D} {ds : List D} : Rep K F v d → RepA K F vs ds → RepA K F (v :: vs) (d :: ds)
inductive RepF (K : PySem.W.Frag) (F : Hp) : List (Str × V) → List (Str × D) → Prop
  | nil : RepF K F [] []
  | cons {n : Str} {v : V} {vs : List (Str × V)} {d : D} {ds : List (Str × D)} : Rep K F v d → RepF K F vs ds → RepF K F ((n, v) :: vs) ((n, d) :: ds)
end

theorem same_rd {H H' : Hp} {a : Addr} {u : HO} (e : Same H H') (h : Rd H a u) : Rd H' a u := by
  rcases h with h | ⟨o, h⟩
  · exact .inl (e a _ h)
  · exact .inr ⟨o, e a _ h⟩
theorem same_t {K : PySem.W.Frag} {H H' : Hp} {a : Addr} {xs : List V} (e : Same H H') (h : SqT K H a xs) : SqT K H' a xs := by
  rcases h with h | h
  · exact .inl (same_rd e h)
  · exact .inr h
section
variable {K : PySem.W.Frag} {F F' : Hp}
mutual
theorem Rep.mono (e : Same F F') : ∀ {v : V} {d : D}, Rep K F v d → Rep K F' v d
  | _, _, .non => .non
  | _, _, .bl b => .bl b
  | _, _, .int i => .int i
  | _, _, .str x => .str x
  | _, _, .ty n => .ty n
  | _, _, .tup h r => .tup (same_t e h) (RepA.mono e r)
  | _, _, .lst h r => .lst (e _ _ h) (RepA.mono e r)
  | _, _, .ins h r => .ins (e _ _ h) (RepF.mono e r)
  | _, _, .obj a => .obj a
  | _, _, .scr h => .scr (e.seq h)
  | _, _, .bag h => .bag (e _ _ h)
theorem RepA.mono (e : Same F F') : ∀ {v : List V} {d : List D}, RepA K F v d → RepA K F' v d
  | _, _, .nil => .nil
  | _, _, .cons h r => .cons (Rep.mono e h) (RepA.mono e r)
theorem RepF.mono (e : Same F F') : ∀ {v : List (Str × V)} {d : List (Str × D)}, RepF K F v d → RepF K F' v d
  | _, _, .nil => .nil
  | _, _, .cons h r => .cons (Rep.mono e h) (RepF.mono e r)
end
theorem RepA.len : ∀ {v : List V} {d : List D}, RepA K F v d → v.length = d.length
  | _, _, .nil => rfl
  | _, _, .cons _ r => congrArg Nat.succ (RepA.len r)
theorem RepF.len : ∀ {v : List (Str × V)} {d : List (Str × D)}, RepF K F v d → v.length = d.length
  | _, _, .nil => rfl
  | _, _, .cons _ r => congrArg Nat.succ (RepF.len r)
theorem RepA.app : ∀ {v w : List V} {d e : List D}, RepA K F v d → RepA K F w e → RepA K F (v ++ w) (d ++ e)
  | _, _, _, _, .nil, s => s
  | _, _, _, _, .cons h r, s => .cons h (RepA.app r s)
theorem RepA.one {v : V} {d : D} (h : Rep K F v d) : RepA K F [v] [d] := .cons h .nil
theorem RepA.get : ∀ {v : List V} {d : List D} {i : Nat} {x : V}, RepA K F v d → v[i]? = some x → ∃ y, d[i]? = some y ∧ Rep K F x y
  | _, _, _, _, .nil, e => by simp at e
  | _, _, 0, _, .cons h _, e => by
    simp at e
    subst e
    exact ⟨_, rfl, h⟩
  | _, _, i + 1, x, .cons _ r, e => by
    obtain ⟨y, h1, h2⟩ := RepA.get (i := i) (x := x) r (by simpa using e)
    exact ⟨y, by simpa using h1, h2⟩
theorem RepA.getD : ∀ {v : List V} {d : List D} {i : Nat} {y : D}, RepA K F v d → d[i]? = some y → ∃ x, v[i]? = some x ∧ Rep K F x y
  | _, _, _, _, .nil, e => by simp at e
  | _, _, 0, _, .cons h _, e => by
    simp at e
    subst e
    exact ⟨_, rfl, h⟩
  | _, _, i + 1, x, .cons _ r, e => by
    obtain ⟨y, h1, h2⟩ := RepA.getD (i := i) (y := x) r (by simpa using e)
    exact ⟨y, by simpa using h1, h2⟩
theorem RepA.take : ∀ {v : List V} {d : List D} (n : Nat), RepA K F v d → RepA K F (v.take n) (d.take n)
  | _, _, 0, _ => .nil
  | _, _, _ + 1, .nil => .nil
  | _, _, n + 1, .cons h r => .cons h (RepA.take n r)
theorem RepA.drop : ∀ {v : List V} {d : List D} (n : Nat), RepA K F v d → RepA K F (v.drop n) (d.drop n)
  | _, _, 0, r => r
  | _, _, _ + 1, .nil => .nil
  | _, _, n + 1, .cons _ r => RepA.drop n r
theorem RepA.rev {v : List V} {d : List D} (h : RepA K F v d) : RepA K F v.reverse d.reverse := by
  induction v generalizing d with
  | nil =>
    cases h
    exact .nil
  | cons x v ih =>
    cases h with
    | cons h r =>
      rw [List.reverse_cons, List.reverse_cons]
      exact (ih r).app (.one h)
theorem RepA.ints : ∀ (ns : List Int), RepA K F (ns.map V.int) (ns.map D.int)
  | [] => .nil
  | n :: r => .cons (.int n) (RepA.ints r)
theorem RepA.ints_inv : ∀ {v : List V} {ns : List Int}, RepA K F v (ns.map D.int) → v = ns.map V.int
  | _, [], .nil => rfl
  | _, n :: r, .cons h t => by
    cases h
    rw [RepA.ints_inv t]
    rfl
theorem RepF.lookup {f : Str} : ∀ {v : List (Str × V)} {d : List (Str × D)} {y : D}, RepF K F v d → d.lookup f = some y → ∃ x, v.lookup f = some x ∧ Rep K F x y
  | _, _, _, .nil, e => by simp at e
  | (n, v) :: vs, (_, d) :: ds, y, .cons h r, e => by
    rw [List.lookup_cons] at e ⊢
    cases hb : f == n with
    | true =>
      rw [hb] at e
      cases e
      exact ⟨v, rfl, h⟩
    | false =>
      rw [hb] at e
      exact RepF.lookup r e
theorem RepF.none {f : Str} : ∀ {v : List (Str × V)} {d : List (Str × D)}, RepF K F v d → d.lookup f = none → v.lookup f = none
  | _, _, .nil, _ => rfl
  | (n, v) :: vs, (_, d) :: ds, .cons h r, e => by
    rw [List.lookup_cons] at e ⊢
    cases hb : f == n with
    | true =>
      rw [hb] at e
      cases e
    | false =>
      rw [hb] at e
      exact RepF.none r e
end

/-! ### steps of the heap: F the frozen part, H the whole -/
structure Stp (F F' H H' : Hp) : Prop where
  ff : Same F F'
  hh : Same H H'
  fh : Same F' H'
  nw : ∀ a, F a = none → H a ≠ none → F' a = none
theorem Stp.refl {F H : Hp} (e : Same F H) : Stp F F H H := ⟨Same.refl F, Same.refl H, e, fun _ h _ => h⟩
theorem Stp.trans {F F1 F2 H H1 H2 : Hp} (a : Stp F F1 H H1) (b : Stp F1 F2 H1 H2) : Stp F F2 H H2 :=
  ⟨a.ff.trans b.ff, a.hh.trans b.hh, b.fh, fun x hf hh => b.nw x (a.nw x hf hh) (by
    cases h : H x with
    | none => exact absurd h hh
    | some o =>
      rw [a.hh x o h]
      exact fun z => nomatch z)⟩
theorem same_new {H : Hp} {p : Addr} {o : HO} (h : H p = none) : Same H (upd H p o) := fun a u e => by
  rw [upd_ne (ne_of_none e h)]
  exact e
/-- a new object, frozen at once -/
theorem Stp.new {F H : Hp} {p : Addr} {o : HO} (e : Same F H) (h : H p = none) : Stp F (upd F p o) H (upd H p o) := by
  have hf : F p = none := e.free h
  refine ⟨same_new hf, same_new h, fun a u q => ?_, fun a h1 h2 => ?_⟩
  · by_cases z : a = p
    · subst z
      rw [upd_same] at q ⊢
      exact q
    · rw [upd_ne z] at q ⊢
      exact e a u q
  · have z : a ≠ p := fun z => by
      rw [z] at h2
      exact h2 h
    rw [upd_ne z]
    exact h1
/-- a new object, not frozen -/
theorem Stp.fresh {F H : Hp} {p : Addr} {o : HO} (e : Same F H) (h : H p = none) : Stp F F H (upd H p o) :=
  ⟨Same.refl F, same_new h, e.trans (same_new h), fun _ h1 _ => h1⟩
/-- one's own new object is frozen -/
theorem Stp.freeze {F F' H H' : Hp} {p : Addr} {o : HO} (s : Stp F F' H H') (h : H p = none) (hf : F' p = none) (hp : H' p = some o) : Stp F (upd F' p o) H H' := by
  refine ⟨s.ff.trans (same_new hf), s.hh, fun a u q => ?_, fun a h1 h2 => ?_⟩
  · by_cases z : a = p
    · subst z
      rw [upd_same] at q
      rw [hp]
      exact q
    · rw [upd_ne z] at q
      exact s.fh a u q
  · have z : a ≠ p := fun z => by
      rw [z] at h2
      exact h2 h
    rw [upd_ne z]
    exact s.nw a h1 h2
/-- one's own object changes -/
theorem Stp.mut {F F' H H' : Hp} {p : Addr} {o : HO} (s : Stp F F' H H') (h : H p = none) (hf : F' p = none) : Stp F F' H (upd H' p o) :=
  ⟨s.ff, fun a u e => by
    rw [upd_ne (ne_of_none e h)]
    exact s.hh a u e, fun a u e => by
    rw [upd_ne (ne_of_none e hf)]
    exact s.fh a u e, s.nw⟩

/-! ### slots, states -/
inductive SV where
  | un | d (v : D) | own (l : List D) | me (a C : Addr) (fs : List (Str × D))
abbrev EV := List SV
structure Ent where
  F : Hp
  H : Hp
def SlotOk (K : PySem.W.Frag) (B : Ent) (F H : Hp) (x : Option (Option V)) : SV → Prop
  | .un => True
  | .d v => ∃ y, x = some (some y) ∧ Rep K F y v
  | .own l => ∃ (a : Addr) (xs : List V), x = some (some (.ref a)) ∧ H a = some (.lst xs) ∧ RepA K F xs l ∧ F a = none ∧ B.H a = none
  | .me a C fs => ∃ (dx : Addr) (xs : List (Str × V)), x = some (some (.ref a)) ∧ H a = some (.ins C dx xs) ∧ RepF K F xs fs ∧ F a = none ∧ B.H a = none
def Mine : SV → Prop
  | .own _ => True
  | .me _ _ _ => True
  | _ => False
structure At (K : PySem.W.Frag) (B : Ent) (env : EV) (F : Hp) (σ : St) (H : Hp) : Prop where
  len : σ.length = env.length
  st : Stp B.F F B.H H
  sl : ∀ (i : Nat) (sv : SV), env[i]? = some sv → SlotOk K B F H (σ[i]?) sv
  inj : ∀ (i j : Nat) (s t : SV) (a : Addr), env[i]? = some s → env[j]? = some t → Mine s → Mine t → σ[i]? = some (some (.ref a)) → σ[j]? = some (some (.ref a)) → i = j
section
variable {K : PySem.W.Frag} {B : Ent} {env : EV} {F F' H H' : Hp} {σ : St}
theorem At.fh (a : At K B env F σ H) : Same F H := a.st.fh
theorem SlotOk.step {x : Option (Option V)} {sv : SV} (s : Stp F F' H H') (h : SlotOk K B F H x sv) : SlotOk K B F' H' x sv := by
  cases sv with
  | un => trivial
  | d v =>
    obtain ⟨y, e, r⟩ := h
    exact ⟨y, e, r.mono s.ff⟩
  | own l =>
    obtain ⟨a, xs, e, h1, r, h2, h3⟩ := h
    exact ⟨a, xs, e, s.hh a _ h1, r.mono s.ff, s.nw a h2 (by rw [h1]; exact fun z => nomatch z), h3⟩
  | me a C fs =>
    obtain ⟨dx, xs, e, h1, r, h2, h3⟩ := h
    exact ⟨dx, xs, e, s.hh a _ h1, r.mono s.ff, s.nw a h2 (by rw [h1]; exact fun z => nomatch z), h3⟩
theorem At.step (a : At K B env F σ H) (s : Stp F F' H H') : At K B env F' σ H' :=
  ⟨a.len, a.st.trans s, fun i sv e => (a.sl i sv e).step s, a.inj⟩
theorem At.var (a : At K B env F σ H) {i : Nat} {d : D} (e : env[i]? = some (.d d)) : ∃ x, σ[i]? = some (some x) ∧ Rep K F x d := a.sl i _ e
theorem get_set {α : Type} {l : List α} {i j : Nat} {x y : α} (h : (l.set i x)[j]? = some y) : (j = i ∧ y = x) ∨ (j ≠ i ∧ l[j]? = some y) := by
  by_cases e : j = i
  · subst e
    rw [List.getElem?_set_self'] at h
    cases hl : l[j]? with
    | none =>
      rw [hl] at h
      cases h
    | some z =>
      rw [hl] at h
      exact .inl ⟨rfl, (Option.some.inj h).symm⟩
  · rw [List.getElem?_set_ne (fun z => e z.symm)] at h
    exact .inr ⟨e, h⟩
theorem set_get {α : Type} {l : List α} {i : Nat} {x : α} (h : i < l.length) : (l.set i x)[i]? = some x := by
  rw [List.getElem?_set_self h]
theorem lt_of_get {α : Type} {l : List α} {i : Nat} {x : α} (h : l[i]? = some x) : i < l.length := (List.getElem?_eq_some_iff.mp h).1
/-- a slot gets a value -/
theorem At.set (a : At K B env F σ H) {i : Nat} {x : V} {d : D} (r : Rep K F x d) : At K B (env.set i (.d d)) F (σ.set i (some x)) H := by
  refine ⟨by rw [List.length_set, List.length_set]; exact a.len, a.st, fun j sv e => ?_, fun j k s t b e1 e2 m1 m2 q1 q2 => ?_⟩
  · rcases get_set e with ⟨rfl, rfl⟩ | ⟨hj, e⟩
    · refine ⟨x, ?_, r⟩
      have h := lt_of_get e
      rw [List.length_set, ← a.len] at h
      exact set_get h
    · rw [List.getElem?_set_ne (fun z => hj z.symm)]
      exact a.sl j sv e
  · rcases get_set e1 with ⟨_, rfl⟩ | ⟨hj, e1⟩
    · exact m1.elim
    rcases get_set e2 with ⟨_, rfl⟩ | ⟨hk, e2⟩
    · exact m2.elim
    rw [List.getElem?_set_ne (fun z => hj z.symm)] at q1
    rw [List.getElem?_set_ne (fun z => hk z.symm)] at q2
    exact a.inj j k s t b e1 e2 m1 m2 q1 q2
theorem At.unset (a : At K B env F σ H) {i : Nat} (x : Option V) : At K B (env.set i .un) F (σ.set i x) H := by
  refine ⟨by rw [List.length_set, List.length_set]; exact a.len, a.st, fun j sv e => ?_, fun j k s t b e1 e2 m1 m2 q1 q2 => ?_⟩
  · rcases get_set e with ⟨rfl, rfl⟩ | ⟨hj, e⟩
    · trivial
    · rw [List.getElem?_set_ne (fun z => hj z.symm)]
      exact a.sl j sv e
  · rcases get_set e1 with ⟨_, rfl⟩ | ⟨hj, e1⟩
    · exact m1.elim
    rcases get_set e2 with ⟨_, rfl⟩ | ⟨hk, e2⟩
    · exact m2.elim
    rw [List.getElem?_set_ne (fun z => hj z.symm)] at q1
    rw [List.getElem?_set_ne (fun z => hk z.symm)] at q2
    exact a.inj j k s t b e1 e2 m1 m2 q1 q2
/-- a slot gets one's own new object -/
theorem At.setMine (a : At K B env F σ H) {i : Nat} {p : Addr} {sv : SV} (m : Mine sv) (r : SlotOk K B F H (some (some (.ref p))) sv)
    (hn : ∀ (j : Nat) (t : SV), j ≠ i → env[j]? = some t → Mine t → σ[j]? ≠ some (some (.ref p))) : At K B (env.set i sv) F (σ.set i (some (.ref p))) H := by
  refine ⟨by rw [List.length_set, List.length_set]; exact a.len, a.st, fun j sv' e => ?_, fun j k s t b e1 e2 m1 m2 q1 q2 => ?_⟩
  · rcases get_set e with ⟨rfl, rfl⟩ | ⟨hj, e⟩
    · have h := lt_of_get e
      rw [List.length_set, ← a.len] at h
      rw [set_get h]
      exact r
    · rw [List.getElem?_set_ne (fun z => hj z.symm)]
      exact a.sl j sv' e
  · rcases get_set e1 with ⟨rfl, rfl⟩ | ⟨hj, e1⟩
    · rcases get_set e2 with ⟨rfl, rfl⟩ | ⟨hk, e2⟩
      · rfl
      · rcases get_set q1 with ⟨_, z⟩ | ⟨z, _⟩
        · cases z
          rw [List.getElem?_set_ne (fun z => hk z.symm)] at q2
          exact absurd q2 (hn k t hk e2 m2)
        · exact absurd rfl z
    · have e1' := e1
      rcases get_set e2 with ⟨rfl, rfl⟩ | ⟨hk, e2⟩
      · rcases get_set q2 with ⟨_, z⟩ | ⟨z, _⟩
        · cases z
          rw [List.getElem?_set_ne (fun z => hj z.symm)] at q1
          exact absurd q1 (hn j s hj e1' m1)
        · exact absurd rfl z
      · rw [List.getElem?_set_ne (fun z => hj z.symm)] at q1
        rw [List.getElem?_set_ne (fun z => hk z.symm)] at q2
        exact a.inj j k s t b e1 e2 m1 m2 q1 q2
theorem SlotOk.there {x : Option (Option V)} {sv : SV} {p : Addr} (h : SlotOk K B F H x sv) (m : Mine sv) (e : x = some (some (.ref p))) : H p ≠ none := by
  cases sv with
  | un => exact m.elim
  | d v => exact m.elim
  | own l =>
    obtain ⟨a, xs, e', h1, _⟩ := h
    rw [e] at e'
    cases e'
    rw [h1]
    exact fun z => nomatch z
  | me a C fs =>
    obtain ⟨dx, xs, e', h1, _⟩ := h
    rw [e] at e'
    cases e'
    rw [h1]
    exact fun z => nomatch z
/-- .. that H0 did not know, ahead of a step -/
theorem At.setNew {F0 H0 : Hp} (a0 : At K B env F0 σ H0) (s : Stp F0 F H0 H) {i : Nat} {p : Addr} {xs : List V} {l : List D} (hp : H0 p = none) (h1 : H p = some (.lst xs)) (hf : F p = none) (r : RepA K F xs l) :
    At K B (env.set i (.own l)) F (σ.set i (some (.ref p))) H := by
  refine (a0.step s).setMine (sv := .own l) trivial ⟨p, xs, rfl, h1, r, hf, a0.st.hh.free hp⟩ fun j t _ e m z => ?_
  exact (a0.sl j t e).there m z hp
/-- one's own list changes -/
theorem At.changeG (a : At K B env F σ H) {i : Nat} {p : Addr} {o : HO} {sv sw : SV} (e : env[i]? = some sv) (m : Mine sv) (es : σ[i]? = some (some (.ref p))) (hf : F p = none) (hb : B.H p = none) (ok : SlotOk K B F (upd H p o) (some (some (.ref p))) sw) :
    At K B (env.set i sw) F σ (upd H p o) := by
  have hi : i < σ.length := lt_of_get es
  have eσ : σ.set i (some (.ref p)) = σ := by
    apply List.ext_getElem?
    intro j
    by_cases hj : i = j
    · subst hj
      rw [set_get hi, es]
    · rw [List.getElem?_set_ne hj]
  have hne : ∀ (j : Nat) (t : SV), j ≠ i → env[j]? = some t → Mine t → σ[j]? ≠ some (some (.ref p)) := fun j t hj et mt z => hj (a.inj j i t sv p et e mt m z es)
  have st' : Stp B.F F B.H (upd H p o) := a.st.mut hb hf
  refine ⟨by rw [List.length_set]; exact a.len, st', fun j sv' e' => ?_, fun j k s t b e1 e2 m1 m2 q1 q2 => ?_⟩
  · rcases get_set e' with ⟨rfl, rfl⟩ | ⟨hj, e'⟩
    · rw [es]
      exact ok
    · have h := a.sl j sv' e'
      cases sv' with
      | un => trivial
      | d v => exact h
      | own l' =>
        obtain ⟨b, ys, z, h1, h2, h3, h4⟩ := h
        refine ⟨b, ys, z, ?_, h2, h3, h4⟩
        rw [upd_ne (fun w => hne j _ hj e' trivial (by rw [z, w]))]
        exact h1
      | me b C fs =>
        obtain ⟨dx, ys, z, h1, h2, h3, h4⟩ := h
        refine ⟨dx, ys, z, ?_, h2, h3, h4⟩
        rw [upd_ne (fun w => hne j _ hj e' trivial (by rw [z, w]))]
        exact h1
  · have m1' : ∃ s', env[j]? = some s' ∧ Mine s' := by
      rcases get_set e1 with ⟨rfl, _⟩ | ⟨_, e1⟩
      · exact ⟨sv, e, m⟩
      · exact ⟨s, e1, m1⟩
    have m2' : ∃ s', env[k]? = some s' ∧ Mine s' := by
      rcases get_set e2 with ⟨rfl, _⟩ | ⟨_, e2⟩
      · exact ⟨sv, e, m⟩
      · exact ⟨t, e2, m2⟩
    obtain ⟨s', f1, n1⟩ := m1'
    obtain ⟨t', f2, n2⟩ := m2'
    exact a.inj j k s' t' b f1 f2 n1 n2 q1 q2
theorem At.change (a : At K B env F σ H) {i : Nat} {p : Addr} {xs : List V} {l : List D} {sv : SV} (e : env[i]? = some sv) (m : Mine sv) (es : σ[i]? = some (some (.ref p))) (hf : F p = none) (hb : B.H p = none) (r : RepA K F xs l) :
    At K B (env.set i (.own l)) F σ (upd H p (.lst xs)) := a.changeG e m es hf hb ⟨p, xs, rfl, upd_same, r, hf, hb⟩
/-- one's own list is frozen -/
theorem At.freeze (a : At K B env F σ H) {i : Nat} {p : Addr} {xs : List V} {l : List D} (e : env[i]? = some (.own l)) (es : σ[i]? = some (some (.ref p))) (h1 : H p = some (.lst xs)) (hf : F p = none) (hb : B.H p = none) (r : RepA K F xs l) :
    At K B (env.set i (.d (.lst l))) (upd F p (.lst xs)) σ H := by
  have hi : i < σ.length := lt_of_get es
  have sF : Same F (upd F p (.lst xs)) := same_new hf
  have hne : ∀ (j : Nat) (t : SV), j ≠ i → env[j]? = some t → Mine t → σ[j]? ≠ some (some (.ref p)) := fun j t hj et mt z => hj (a.inj j i t _ p et e mt trivial z es)
  refine ⟨by rw [List.length_set]; exact a.len, a.st.freeze hb hf h1, fun j sv' e' => ?_, fun j k s t b e1 e2 m1 m2 q1 q2 => ?_⟩
  · rcases get_set e' with ⟨rfl, rfl⟩ | ⟨hj, e'⟩
    · exact ⟨.ref p, es, .lst upd_same (r.mono sF)⟩
    · have h := a.sl j sv' e'
      cases sv' with
      | un => trivial
      | d v =>
        obtain ⟨y, z, q⟩ := h
        exact ⟨y, z, q.mono sF⟩
      | own l' =>
        obtain ⟨b, ys, z, g1, g2, g3, g4⟩ := h
        refine ⟨b, ys, z, g1, g2.mono sF, ?_, g4⟩
        rw [upd_ne (fun w => hne j _ hj e' trivial (by rw [z, w]))]
        exact g3
      | me b C fs =>
        obtain ⟨dx, ys, z, g1, g2, g3, g4⟩ := h
        refine ⟨dx, ys, z, g1, g2.mono sF, ?_, g4⟩
        rw [upd_ne (fun w => hne j _ hj e' trivial (by rw [z, w]))]
        exact g3
  · rcases get_set e1 with ⟨_, rfl⟩ | ⟨hj, e1⟩
    · exact m1.elim
    rcases get_set e2 with ⟨_, rfl⟩ | ⟨hk, e2⟩
    · exact m2.elim
    exact a.inj j k s t b e1 e2 m1 m2 q1 q2
end
end DL
/-! DL2: what a reading asks, over data: expressions, arguments, tests, statements, loops, calls. -/
namespace DL
open PySem L2

/-- an error: its class, its fields -/
structure Er where
  C : Addr
  fs : List (Str × D)
abbrev ER := Er → Prop
abbrev WE := EV → ER → (D → Prop) → Prop
abbrev WT := EV → ER → (Bool → Prop) → Prop
abbrev WA := EV → ER → (List D → Prop) → Prop
abbrev WO := EV → ER → (List D → Prop) → Prop
structure DN where
  nx : EV → Prop
  rt : D → Prop
  bk : EV → Prop := fun _ => False
  ct : EV → Prop := fun _ => False
  er : ER := fun _ => False
abbrev WS := DN → EV → Prop
/-- a def's meaning -/
abbrev FS := List D → ER → (D → Prop) → Prop

def ErrRep (K : PySem.W.Frag) (F : Hp) (d : Option Addr) (fs : List (Str × D)) : Prop := match d with
  | none => fs = []
  | some d => ∃ xs, F d = some (.xd xs) ∧ RepF K F xs fs
def EL (K : PySem.W.Frag) (B : Ent) (E : XK) (er : ER) : Prop := ∀ (C : Addr) (d : Option Addr) (fs : List (Str × D)) (F' H' : Hp), Stp B.F F' B.H H' → ErrRep K F' d fs → er ⟨C, fs⟩ → E (.ref C) d H'
def VL (K : PySem.W.Frag) (F H : Hp) (Q : VK) (q : D → Prop) : Prop := ∀ (x : V) (d : D) (F' H' : Hp), Stp F F' H H' → Rep K F' x d → q d → Q x H'
section
variable (K : PySem.W.Frag) (E : XK)
def SimE (te : TE) (w : WE) : Prop := ∀ (B : Ent) (env : EV) (F : Hp) (σ : St) (H : Hp) (Q : VK) (er : ER) (q : D → Prop), At K B env F σ H → EL K B E er → w env er q → VL K F H Q q → te σ H Q
def SimT (tt : TT) (w : WT) : Prop := ∀ (B : Ent) (env : EV) (F : Hp) (σ : St) (H : Hp) (Q : Bool → Hp → Prop) (er : ER) (q : Bool → Prop), At K B env F σ H → EL K B E er → w env er q →
  (∀ (b : Bool) (F' H' : Hp), Stp F F' H H' → q b → Q b H') → tt σ H Q
def SimA (ta : TA) (w : WA) : Prop := ∀ (B : Ent) (env : EV) (F : Hp) (σ : St) (H : Hp) (Q : List V → Hp → Prop) (er : ER) (q : List D → Prop), At K B env F σ H → EL K B E er → w env er q →
  (∀ (xs : List V) (ds : List D) (F' H' : Hp), Stp F F' H H' → RepA K F' xs ds → q ds → Q xs H') → ta σ H Q
/-- a new list that nobody else holds -/
def SimO (te : TE) (w : WO) : Prop := ∀ (B : Ent) (env : EV) (F : Hp) (σ : St) (H : Hp) (Q : VK) (er : ER) (q : List D → Prop), At K B env F σ H → EL K B E er → w env er q →
  (∀ (a : Addr) (xs : List V) (l : List D) (F' H' : Hp), Stp F F' H H' → H a = none → H' a = some (.lst xs) → F' a = none → RepA K F' xs l → q l → Q (.ref a) H') → te σ H Q
/-- a list that is looked at: its items -/
def SimL (te : TE) (w : WO) : Prop := ∀ (B : Ent) (env : EV) (F : Hp) (σ : St) (H : Hp) (Q : VK) (er : ER) (q : List D → Prop), At K B env F σ H → EL K B E er → w env er q →
  (∀ (a : Addr) (xs : List V) (l : List D) (F' H' : Hp), Stp F F' H H' → SqL K H' a xs → RepA K F' xs l → q l → Q (.ref a) H') → te σ H Q
structure Link (B : Ent) (Dd : Ends) (n : DN) : Prop where
  nx : ∀ (env : EV) (F : Hp) (σ : St) (H : Hp), At K B env F σ H → n.nx env → Dd.nx σ H
  rt : ∀ (x : V) (d : D) (F H : Hp), Stp B.F F B.H H → Rep K F x d → n.rt d → Dd.rt x H
  bk : ∀ (env : EV) (F : Hp) (σ : St) (H : Hp), At K B env F σ H → n.bk env → Dd.bk σ H
  ct : ∀ (env : EV) (F : Hp) (σ : St) (H : Hp), At K B env F σ H → n.ct env → Dd.ct σ H
  er : EL K B E n.er
def SimS (ts : TS) (w : WS) : Prop := ∀ (B : Ent) (Dd : Ends) (n : DN), Link K E B Dd n → ∀ (env : EV) (F : Hp) (σ : St) (H : Hp), At K B env F σ H → w n env → ts Dd σ H
end
/-- a two-place, a one-place operation, a call, on values -/
def Sim2 (K : PySem.W.Frag) (r : R2) (f : D → D → (D → Prop) → Prop) : Prop := ∀ (F H : Hp) (x y : V) (d e : D) (Q : VK) (q : D → Prop), Same F H → Rep K F x d → Rep K F y e → f d e q → VL K F H Q q → r x y H Q
def Sim1 (K : PySem.W.Frag) (r : V → Hp → VK → Prop) (f : D → (D → Prop) → Prop) : Prop := ∀ (F H : Hp) (x : V) (d : D) (Q : VK) (q : D → Prop), Same F H → Rep K F x d → f d q → VL K F H Q q → r x H Q
def SimC (K : PySem.W.Frag) (r : List V → Hp → VK → Prop) (f : List D → (D → Prop) → Prop) : Prop := ∀ (F H : Hp) (xs : List V) (ds : List D) (Q : VK) (q : D → Prop), Same F H → RepA K F xs ds → f ds q → VL K F H Q q → r xs H Q
section
variable {K : PySem.W.Frag} {E : XK} {ta tb tc te : TE} {wa wb wc we : WE} {tt tu : TT} {wt wu : WT} {ts ts' : TS} {ws ws' : WS} {i j : Nat} {d : D} {v : V} {r : R2} {f2 : D → D → (D → Prop) → Prop}
theorem VL.here {F H : Hp} {Q : VK} {q : D → Prop} {x : V} {d : D} (h : VL K F H Q q) (e : Same F H) (r : Rep K F x d) (z : q d) : Q x H := h x d F H (Stp.refl e) r z
theorem VL.step {F F' H H' : Hp} {Q : VK} {q : D → Prop} (h : VL K F H Q q) (s : Stp F F' H H') : VL K F' H' Q q := fun x d F2 H2 s2 => h x d F2 H2 (s.trans s2)

/-! ### expressions -/
def wVar (i : Nat) : WE := fun env _ q => match env[i]? with
  | some (.d d) => q d
  | _ => False
theorem sim_var : SimE K E (tVar i) (wVar i) := fun B env F σ H Q er q a _ w k => by
  unfold wVar at w
  split at w
  · rename_i d e
    obtain ⟨x, ex, r⟩ := a.var e
    exact ⟨x, ex, k.here a.fh r w⟩
  · exact w.elim
def wC (d : D) : WE := fun _ _ q => q d
theorem sim_int {i : Int} : SimE K E (tC (.int i)) (wC (.int i)) := fun B env F σ H Q er q a _ w k => k.here a.fh (.int i) w
theorem sim_bl {b : Bool} : SimE K E (tC (.bl b)) (wC (.bl b)) := fun B env F σ H Q er q a _ w k => k.here a.fh (.bl b) w
theorem sim_non : SimE K E (tC .non) (wC .non) := fun B env F σ H Q er q a _ w k => k.here a.fh .non w
theorem sim_str {x : Str} : SimE K E (tC (.str x)) (wC (.str x)) := fun B env F σ H Q er q a _ w k => k.here a.fh (.str x) w
theorem sim_ty {n : String} : SimE K E (tC (.ty n)) (wC (.ty n)) := fun B env F σ H Q er q a _ w k => k.here a.fh (.ty n) w
theorem sim_obj {p : Addr} : SimE K E (tC (.ref p)) (wC (.obj p)) := fun B env F σ H Q er q a _ w k => k.here a.fh (.obj p) w
/-- the term is another one's -/
theorem sim_is {w : WE} (h : SimE K E te w) {w' : WE} (e : ∀ env er q, w' env er q → w env er q) : SimE K E te w' := fun B env F σ H Q er q a l z k => h B env F σ H Q er q a l (e env er q z) k

def w2 (f : D → D → (D → Prop) → Prop) (wa wb : WE) : WE := fun env er q => wa env er fun x => wb env er fun y => f x y q
theorem sim_op (hr : Sim2 K r f2) (ha : SimE K E ta wa) (hb : SimE K E tb wb) : SimE K E (tOp r ta tb) (w2 f2 wa wb) := fun B env F σ H Q er q a l w k =>
  ha B env F σ H _ er _ a l w fun x d F1 H1 s1 r1 w1 =>
    hb B env F1 σ H1 _ er _ (a.step s1) l w1 fun y e F2 H2 s2 r2 w2 =>
      hr F2 H2 x y d e Q q s2.fh (r1.mono s2.ff) r2 w2 (k.step (s1.trans s2))
def w1 (f : D → (D → Prop) → Prop) (wa : WE) : WE := fun env er q => wa env er fun x => f x q
theorem sim_un {r : V → Hp → VK → Prop} {f : D → (D → Prop) → Prop} (hr : Sim1 K r f) (ha : SimE K E ta wa) : SimE K E (tUn r ta) (w1 f wa) := fun B env F σ H Q er q a l w k =>
  ha B env F σ H _ er _ a l w fun x d F1 H1 s1 r1 w1 => hr F1 H1 x d Q q s1.fh r1 w1 (k.step s1)
def wNil : WA := fun _ _ q => q []
def wCons (wa : WE) (wr : WA) : WA := fun env er q => wa env er fun x => wr env er fun r => q (x :: r)
theorem sim_nil : SimA K E tNil wNil := fun B env F σ H Q er q a _ w k => k [] [] F H (Stp.refl a.fh) .nil w
theorem sim_cons {tr : TA} {wr : WA} (ha : SimE K E ta wa) (hr : SimA K E tr wr) : SimA K E (tCons ta tr) (wCons wa wr) := fun B env F σ H Q er q a l w k =>
  ha B env F σ H _ er _ a l w fun x d F1 H1 s1 r1 w1 =>
    hr B env F1 σ H1 _ er _ (a.step s1) l w1 fun xs ds F2 H2 s2 r2 w2 => k _ _ F2 H2 (s1.trans s2) (.cons (r1.mono s2.ff) r2) w2
def wTup (wa : WA) : WE := fun env er q => wa env er fun l => l.length ≤ sizeLine ∧ q (.tup l)
theorem sim_tup {t : TA} {w : WA} (h : SimA K E t w) : SimE K E (tTup t) (wTup w) := fun B env F σ H Q er q a l w k =>
  h B env F σ H _ er _ a l w fun xs ds F1 H1 s1 r1 w1 => ⟨by rw [r1.len]; exact w1.1, fun p hp =>
    k _ _ _ _ (s1.trans (Stp.new s1.fh hp)) (.tup (.inl (.inl upd_same)) (r1.mono (same_new (s1.fh.free hp)))) w1.2⟩
def wLstO (wa : WA) : WO := fun env er q => wa env er fun l => l.length ≤ sizeLine ∧ q l
theorem sim_lstO {t : TA} {w : WA} (h : SimA K E t w) : SimO K E (tLst t) (wLstO w) := fun B env F σ H Q er q a l w k =>
  h B env F σ H _ er _ a l w fun xs ds F1 H1 s1 r1 w1 => ⟨by rw [r1.len]; exact w1.1, fun p hp =>
    k p xs ds F1 _ (s1.trans (Stp.fresh s1.fh hp)) (s1.hh.free hp) upd_same (s1.fh.free hp) r1 w1.2⟩
/-- a new list, frozen -/
def wFz (wo : WO) : WE := fun env er q => wo env er fun l => q (.lst l)
theorem sim_fz {w : WO} (h : SimO K E te w) : SimE K E te (wFz w) := fun B env F σ H Q er q a l w k =>
  h B env F σ H _ er _ a l w fun p xs ds F1 H1 s1 hp h1 hf r1 w1 => k _ _ _ _ (s1.freeze hp hf h1) (.lst upd_same (r1.mono (same_new hf))) w1
/-- a new list, looked at -/
theorem siml_O {w : WO} (h : SimO K E te w) : SimL K E te w := fun B env F σ H Q er q a l w k =>
  h B env F σ H _ er _ a l w fun p xs ds F1 H1 s1 hp h1 hf r1 w1 => k p xs ds F1 H1 s1 (SqL.of h1) r1 w1
def wLk (we : WE) : WO := fun env er q => we env er fun d => match d with
  | .lst l => q l
  | .scr ns => q (ns.map .int)
  | _ => False
theorem siml_E (h : SimE K E te we) : SimL K E te (wLk we) := fun B env F σ H Q er q a l w k =>
  h B env F σ H _ er _ a l w fun x d F1 H1 s1 r1 w1 => by
    cases r1 with
    | lst h1 h2 => exact k _ _ _ F1 H1 s1 (SqL.of (s1.fh _ _ h1)) h2 w1
    | scr h1 => exact k _ _ _ F1 H1 s1 (s1.fh.seq h1) (RepA.ints _) w1
    | _ => exact w1.elim
def wOwn (i : Nat) : WO := fun env _ q => match env[i]? with
  | some (.own l) => q l
  | _ => False
theorem siml_own : SimL K E (tVar i) (wOwn i) := fun B env F σ H Q er q a _ w k => by
  unfold wOwn at w
  split at w
  · rename_i l e
    obtain ⟨p, xs, ex, h1, r, h2, h3⟩ := a.sl i _ e
    exact ⟨.ref p, ex, k p xs l F H (Stp.refl a.fh) (SqL.of h1) r w⟩
  · exact w.elim
def wAnd (wa wb : WE) : WE := fun env er q => wa env er fun x => match x with
  | .bl true => wb env er q
  | .bl false => q (.bl false)
  | _ => False
theorem sim_andV (ha : SimE K E ta wa) (hb : SimE K E tb wb) : SimE K E (tAndV ta tb) (wAnd wa wb) := fun B env F σ H Q er q a l w k =>
  ha B env F σ H _ er _ a l w fun x d F1 H1 s1 r1 w1 => by
    cases r1 with
    | bl b =>
      refine ⟨b, rfl, ?_⟩
      cases b with
      | true => exact hb B env F1 σ H1 Q er q (a.step s1) l w1 (k.step s1)
      | false => exact k _ _ F1 H1 s1 (.bl false) w1
    | _ => exact w1.elim
def wOr (wa wb : WE) : WE := fun env er q => wa env er fun x => match x with
  | .bl true => q (.bl true)
  | .bl false => wb env er q
  | _ => False
theorem sim_orV (ha : SimE K E ta wa) (hb : SimE K E tb wb) : SimE K E (tOrV ta tb) (wOr wa wb) := fun B env F σ H Q er q a l w k =>
  ha B env F σ H _ er _ a l w fun x d F1 H1 s1 r1 w1 => by
    cases r1 with
    | bl b =>
      refine ⟨b, rfl, ?_⟩
      cases b with
      | true => exact k _ _ F1 H1 s1 (.bl true) w1
      | false => exact hb B env F1 σ H1 Q er q (a.step s1) l w1 (k.step s1)
    | _ => exact w1.elim
def wNot (wa : WE) : WE := fun env er q => wa env er fun x => match x with
  | .bl b => q (.bl (!b))
  | _ => False
theorem sim_notV (ha : SimE K E ta wa) : SimE K E (tNotV ta) (wNot wa) := fun B env F σ H Q er q a l w k =>
  ha B env F σ H _ er _ a l w fun x d F1 H1 s1 r1 w1 => by
    cases r1 with
    | bl b => exact ⟨b, rfl, k _ _ F1 H1 s1 (.bl (!b)) w1⟩
    | _ => exact w1.elim
/-- a truth as a test -/
def wB (wa : WE) : WT := fun env er q => wa env er fun x => match x with
  | .bl b => q b
  | _ => False
theorem simt_B (ha : SimE K E ta wa) : SimT K E (tB ta) (wB wa) := fun B env F σ H Q er q a l w k =>
  ha B env F σ H _ er _ a l w fun x d F1 H1 s1 r1 w1 => by
    cases r1 with
    | bl b => exact ⟨b, rfl, k b F1 H1 s1 w1⟩
    | _ => exact w1.elim
theorem simt_test (ha : SimE K E ta wa) : SimT K E (tTest ta) (wB wa) := fun B env F σ H Q er q a l w k =>
  ha B env F σ H _ er _ a l w fun x d F1 H1 s1 r1 w1 => by
    cases r1 with
    | bl b => exact ⟨b, rfl, k b F1 H1 s1 w1⟩
    | _ => exact w1.elim
def wYes : WT := fun _ _ q => q true
theorem simt_yes : SimT K E tYes wYes := fun B env F σ H Q er q a l w k => k true F H (Stp.refl a.fh) w
def wIf (wt : WT) (wa wb : WE) : WE := fun env er q => wt env er fun b => (b = true → wa env er q) ∧ (b = false → wb env er q)
theorem sim_if (ht : SimT K E tt wt) (ha : SimE K E ta wa) (hb : SimE K E tb wb) : SimE K E (tIf tt ta tb) (wIf wt wa wb) := fun B env F σ H Q er q a l w k =>
  ht B env F σ H _ er _ a l w fun b F1 H1 s1 w1 => by
    cases b with
    | true => exact ha B env F1 σ H1 Q er q (a.step s1) l (w1.1 rfl) (k.step s1)
    | false => exact hb B env F1 σ H1 Q er q (a.step s1) l (w1.2 rfl) (k.step s1)
/-- o.f -/
def wFld (f : Str) (wa : WE) : WE := fun env er q => wa env er fun x => match x with
  | .ins C fs => match fs.lookup f with
    | some d => q d
    | none => False
  | _ => False
theorem sim_fld {f : Str} (cl : ∀ C, Cls K C) (na : ∀ C, NoAttr K C f) (ha : SimE K E ta wa) : SimE K E (tFld K ta f) (wFld f wa) := fun B env F σ H Q er q a l w k =>
  ha B env F σ H _ er _ a l w fun x d F1 H1 s1 r1 w1 => by
    cases r1 with
    | @ins p C dx xs fs h1 h2 =>
      have w2 : (match fs.lookup f with | some d => q d | none => False) := w1
      cases e : fs.lookup f with
      | none =>
        rw [e] at w2
        exact w2.elim
      | some y =>
        rw [e] at w2
        obtain ⟨z, ez, rz⟩ := h2.lookup e
        exact ⟨p, C, dx, xs, z, rfl, s1.fh _ _ h1, cl C, na C, ez, k _ _ F1 H1 s1 rz w2⟩
    | _ => exact w1.elim
/-- the same where the class is known -/
def wFldC (C : Addr) (f : Str) (wa : WE) : WE := fun env er q => wa env er fun x => match x with
  | .ins C' fs => C' = C ∧ match fs.lookup f with
    | some d => q d
    | none => False
  | _ => False
theorem sim_fldC {f : Str} {C : Addr} (cl : Cls K C) (na : NoAttr K C f) (ha : SimE K E ta wa) : SimE K E (tFld K ta f) (wFldC C f wa) := fun B env F σ H Q er q a l w k =>
  ha B env F σ H _ er _ a l w fun x d F1 H1 s1 r1 w1 => by
    cases r1 with
    | @ins p C' dx xs fs h1 h2 =>
      obtain ⟨e1, w2⟩ := w1
      subst e1
      cases e : fs.lookup f with
      | none =>
        rw [e] at w2
        exact w2.elim
      | some y =>
        rw [e] at w2
        obtain ⟨z, ez, rz⟩ := h2.lookup e
        exact ⟨p, C', dx, xs, z, rfl, s1.fh _ _ h1, cl, na, ez, k _ _ F1 H1 s1 rz w2⟩
    | _ => exact w1.elim
/-- a built-in called -/
def wCB (f : List D → (D → Prop) → Prop) (wa : WA) : WE := fun env er q => wa env er fun ds => f ds q
theorem sim_cb {r : List V → Hp → VK → Prop} {f : List D → (D → Prop) → Prop} {t : TA} {w : WA} (hr : SimC K r f) (ha : SimA K E t w) : SimE K E (tCB r t) (wCB f w) := fun B env F σ H Q er q a l w k =>
  ha B env F σ H _ er _ a l w fun xs ds F1 H1 s1 r1 w1 => hr F1 H1 xs ds Q q s1.fh r1 w1 (k.step s1)
/-- a built-in called with a list that is looked at -/
def SimCL (K : PySem.W.Frag) (r : List V → Hp → VK → Prop) (f : List D → (D → Prop) → Prop) : Prop := ∀ (F H : Hp) (a : Addr) (xs : List V) (l : List D) (Q : VK) (q : D → Prop), Same F H → SqL K H a xs → RepA K F xs l → f l q → VL K F H Q q → r [.ref a] H Q
def wCBL (f : List D → (D → Prop) → Prop) (wo : WO) : WE := fun env er q => wo env er fun l => f l q
theorem sim_cbl {r : List V → Hp → VK → Prop} {f : List D → (D → Prop) → Prop} {w : WO} (hr : SimCL K r f) (ha : SimL K E ta w) : SimE K E (tCB r (tCons ta tNil)) (wCBL f w) := fun B env F σ H Q er q a l w k =>
  ha B env F σ H _ er _ a l w fun p xs ds F1 H1 s1 h1 r1 w1 => hr F1 H1 p xs ds Q q s1.fh h1 r1 w1 (k.step s1)

/-! ### own defs called -/
def spOf (K : PySem.W.Frag) (n : Nat) (S : FS) : Sp := fun vs H Q E => ∃ (F : Hp) (ds : List D) (er : ER) (q : D → Prop), ds.length = n ∧ Same F H ∧ RepA K F vs ds ∧ S ds er q ∧ VL K F H Q q ∧ EL K ⟨F, H⟩ E er
theorem spOf_len {n : Nat} {S : FS} {vs : List V} {H : Hp} {Q : VK} {E : XK} (h : spOf K n S vs H Q E) : vs.length = n := by
  obtain ⟨F, ds, er, q, hl, _, r, _⟩ := h
  rw [r.len, hl]
theorem EL.at {B : Ent} {env : EV} {F H : Hp} {σ : St} {er : ER} (l : EL K B E er) (a : At K B env F σ H) : EL K ⟨F, H⟩ E er := fun C d fs F' H' s r z => l C d fs F' H' (a.st.trans s) r z
theorem EL.no {B : Ent} : EL K B E (fun _ => False) := fun C d fs F' H' _ _ z => z.elim
def wCall (n : Nat) (S : FS) (dd : List D) (wa : WA) : WE := fun env er q => wa env er fun ds => (ds ++ dd).length = n ∧ S (ds ++ dd) er q
theorem sim_call {n : Nat} {S : FS} {dvs : List V} {dd : List D} {t : TA} {w : WA} (hd : ∀ F, RepA K F dvs dd) (ha : SimA K E t w) : SimE K E (tCall (spOf K n S) dvs E t) (wCall n S dd w) := fun B env F σ H Q er q a l w k =>
  ha B env F σ H _ er _ a l w fun xs ds F1 H1 s1 r1 w1 => ⟨F1, ds ++ dd, er, q, w1.1, s1.fh, r1.app (hd F1), w1.2, k.step s1, l.at (a.step s1)⟩
/-- .. that raises nothing -/
def wCall0 (n : Nat) (S : FS) (dd : List D) (wa : WA) : WE := fun env er q => wa env er fun ds => (ds ++ dd).length = n ∧ S (ds ++ dd) (fun _ => False) q
theorem sim_call0 {n : Nat} {S : FS} {dvs : List V} {dd : List D} {t : TA} {w : WA} {E1 : XK} (hd : ∀ F, RepA K F dvs dd) (ha : SimA K E t w) : SimE K E (tCall (spOf K n S) dvs E1 t) (wCall0 n S dd w) := fun B env F σ H Q er q a l w k =>
  ha B env F σ H _ er _ a l w fun xs ds F1 H1 s1 r1 w1 => ⟨F1, ds ++ dd, _, q, w1.1, s1.fh, r1.app (hd F1), w1.2, k.step s1, EL.no⟩
theorem rd0 : ∀ F, RepA K F [] [] := fun _ => .nil
/-- keywords: g puts the values in the parameters' order -/
def wCallN (n m p : Nat) (S : FS) (g : List D → List D → List D) (wa wk : WA) : WE := fun env er q => wa env er fun ds => wk env er fun zs => ds.length = n ∧ zs.length = m ∧ (g ds zs).length = p ∧ S (g ds zs) er q
theorem sim_callN {n m p : Nat} {S : FS} {gV : List V → List V → List V} {g : List D → List D → List D} {t tk : TA} {w wk : WA} (hg : ∀ F vs ds us zs, RepA K F vs ds → RepA K F us zs → RepA K F (gV vs us) (g ds zs)) (ha : SimA K E t w) (hk : SimA K E tk wk) :
    SimE K E (tCallN n m (spOf K p S) gV E t tk) (wCallN n m p S g w wk) := fun B env F σ H Q er q a l w k =>
  ha B env F σ H _ er _ a l w fun xs ds F1 H1 s1 r1 w1 => hk B env F1 σ H1 _ er _ (a.step s1) l w1 fun ys zs F2 H2 s2 r2 w2 =>
    ⟨by rw [r1.len]; exact w2.1, by rw [r2.len]; exact w2.2.1, F2, g ds zs, er, q, w2.2.2.1, s2.fh, hg F2 _ _ _ _ (RepA.mono s2.ff r1) r2, w2.2.2.2, k.step (s1.trans s2), l.at (a.step (s1.trans s2))⟩
/-- o.m(..) -/
def wMeth (C : Addr) (m : Str) (n : Nat) (S : FS) (dd : List D) (wa : WE) (wr : WA) : WE := fun env er q => wa env er fun o => match o with
  | .ins C' fs => C' = C ∧ fs.lookup m = none ∧ wr env er fun ds => (o :: (ds ++ dd)).length = n ∧ S (o :: (ds ++ dd)) er q
  | _ => False
theorem sim_meth {C : Addr} {m : Str} {n : Nat} {S : FS} {dvs : List V} {dd : List D} {t : TA} {w : WA} (hd : ∀ F, RepA K F dvs dd) (ho : SimE K E ta wa) (ha : SimA K E t w) : SimE K E (tMeth C m (spOf K n S) dvs E ta t) (wMeth C m n S dd wa w) := fun B env F σ H Q er q a l w k =>
  ho B env F σ H _ er _ a l w fun x d F1 H1 s1 r1 w1 => by
    cases r1 with
    | @ins p C' dx xs fs h1 h2 =>
      obtain ⟨e1, e2, w2⟩ := w1
      subst e1
      refine ⟨p, dx, xs, rfl, s1.fh _ _ h1, h2.none e2, ha B env F1 σ H1 _ er _ (a.step s1) l w2 fun ys ds F2 H2 s2 r2 w3 => ?_⟩
      exact ⟨F2, _, er, q, w3.1, s2.fh, .cons ((Rep.ins h1 h2).mono s2.ff) (r2.app (hd F2)), w3.2, k.step (s1.trans s2), l.at (a.step (s1.trans s2))⟩
    | _ => exact w1.elim

/-! ### statements -/
def sNext : WS := fun n env => n.nx env
theorem sims_next : SimS K E tNext sNext := fun B Dd n L env F σ H a w => L.nx env F σ H a w
def sSeq (w u : WS) : WS := fun n env => w { n with nx := u n } env
theorem sims_seq (h : SimS K E ts ws) (g : SimS K E ts' ws') : SimS K E (tSeq ts ts') (sSeq ws ws') := fun B Dd n L env F σ H a w =>
  h B { Dd with nx := ts' Dd } { n with nx := ws' n } ⟨fun env' F' σ' H' a' w' => g B Dd n L env' F' σ' H' a' w', L.rt, L.bk, L.ct, L.er⟩ env F σ H a w
def sBreak : WS := fun n env => n.bk env
theorem sims_break : SimS K E tBreak sBreak := fun B Dd n L env F σ H a w => L.bk env F σ H a w
def sCont : WS := fun n env => n.ct env
theorem sims_cont : SimS K E tCont sCont := fun B Dd n L env F σ H a w => L.ct env F σ H a w
def sNever : WS := fun _ _ => False
theorem sims_never : SimS K E tNever sNever := fun B Dd n L env F σ H a w => w.elim
def sDrop (we : WE) : WS := fun n env => we env n.er fun _ => n.nx env
theorem sims_drop (h : SimE K E te we) : SimS K E (tDrop te) (sDrop we) := fun B Dd n L env F σ H a w =>
  h B env F σ H _ n.er _ a L.er w fun x d F1 H1 s1 r1 w1 => L.nx env F1 σ H1 (a.step s1) w1
def sRet (we : WE) : WS := fun n env => we env n.er n.rt
theorem sims_ret (h : SimE K E te we) : SimS K E (tRet te) (sRet we) := fun B Dd n L env F σ H a w =>
  h B env F σ H _ n.er _ a L.er w fun x d F1 H1 s1 r1 w1 => L.rt x d F1 H1 (a.st.trans s1) r1 w1
def sRetN : WS := fun n _ => n.rt .non
theorem sims_retN : SimS K E tRetN sRetN := fun B Dd n L env F σ H a w => L.rt .non .non F H a.st .non w
/-- return found, one's own list -/
def sRetO (i : Nat) : WS := fun n env => match env[i]? with
  | some (.own l) => n.rt (.lst l)
  | _ => False
theorem sims_retO : SimS K E (tRet (tVar i)) (sRetO i) := fun B Dd n L env F σ H a w => by
  unfold sRetO at w
  split at w
  · rename_i l e
    obtain ⟨p, xs, ex, h1, r, h2, h3⟩ := a.sl i _ e
    refine ⟨.ref p, ex, ?_⟩
    exact L.rt _ _ _ H (a.freeze e ex h1 h2 h3 r).st (.lst upd_same (r.mono (same_new h2))) w
  · exact w.elim
def sIf (wt : WT) (w u : WS) : WS := fun n env => wt env n.er fun b => (b = true → w n env) ∧ (b = false → u n env)
theorem sims_if (ht : SimT K E tt wt) (h : SimS K E ts ws) (g : SimS K E ts' ws') : SimS K E (tIfS tt ts ts') (sIf wt ws ws') := fun B Dd n L env F σ H a w =>
  ht B env F σ H _ n.er _ a L.er w fun b F1 H1 s1 w1 => by
    cases b with
    | true => exact h B Dd n L env F1 σ H1 (a.step s1) (w1.1 rfl)
    | false => exact g B Dd n L env F1 σ H1 (a.step s1) (w1.2 rfl)
def sAsg (i : Nat) (we : WE) : WS := fun n env => we env n.er fun d => n.nx (env.set i (.d d))
theorem sims_asg (h : SimE K E te we) : SimS K E (tAsg te (gName i)) (sAsg i we) := fun B Dd n L env F σ H a w =>
  h B env F σ H _ n.er _ a L.er w fun x d F1 H1 s1 r1 w1 => L.nx _ F1 _ H1 ((a.step s1).set r1) w1
/-- found = [..] -/
def sAsgO (i : Nat) (wo : WO) : WS := fun n env => wo env n.er fun l => n.nx (env.set i (.own l))
theorem sims_asgO {w : WO} (h : SimO K E te w) : SimS K E (tAsg te (gName i)) (sAsgO i w) := fun B Dd n L env F σ H a w =>
  h B env F σ H _ n.er _ a L.er w fun p xs l F1 H1 s1 hp h1 hf r1 w1 => L.nx _ F1 _ H1 (a.setNew s1 hp h1 hf r1) w1
/-- a, b = .., .. -/
def sPar (i j : Nat) (wa wb : WE) : WS := fun n env => wa env n.er fun x => wb env n.er fun y => n.nx ((env.set i (.d x)).set j (.d y))
theorem sims_par (ha : SimE K E ta wa) (hb : SimE K E tb wb) : SimS K E (tPar i j (tCons ta (tCons tb tNil))) (sPar i j wa wb) := fun B Dd n L env F σ H a w =>
  ha B env F σ H _ n.er _ a L.er w fun x d F1 H1 s1 r1 w1 => hb B env F1 σ H1 _ n.er _ (a.step s1) L.er w1 fun y e F2 H2 s2 r2 w2 =>
    ⟨x, y, rfl, L.nx _ F2 _ H2 (((a.step (s1.trans s2)).set (r1.mono s2.ff)).set r2) w2⟩
/-- found, rest = [], .. -/
def sParO (i j : Nat) (wo : WO) (wb : WE) : WS := fun n env => wo env n.er fun l => wb env n.er fun y => n.nx ((env.set i (.own l)).set j (.d y))
theorem sims_parO {w : WO} (ha : SimO K E ta w) (hb : SimE K E tb wb) : SimS K E (tPar i j (tCons ta (tCons tb tNil))) (sParO i j w wb) := fun B Dd n L env F σ H a w =>
  ha B env F σ H _ n.er _ a L.er w fun p xs l F1 H1 s1 hp h1 hf r1 w1 => hb B env F1 σ H1 _ n.er _ (a.step s1) L.er w1 fun y e F2 H2 s2 r2 w2 =>
    ⟨.ref p, y, rfl, L.nx _ F2 _ H2 ((a.setNew (s1.trans s2) hp (s2.hh _ _ h1) (s2.nw p hf (by rw [h1]; exact fun z => nomatch z)) (RepA.mono s2.ff r1)).set r2) w2⟩
/-- found, lines = [], [] -/
def sParOO (i j : Nat) (wo wp : WO) : WS := fun n env => wo env n.er fun l => wp env n.er fun m => n.nx ((env.set i (.own l)).set j (.own m))
theorem sims_parOO {w wp : WO} (ha : SimO K E ta w) (hb : SimO K E tb wp) (hij : i ≠ j) : SimS K E (tPar i j (tCons ta (tCons tb tNil))) (sParOO i j w wp) := fun B Dd n L env F σ H a w =>
  ha B env F σ H _ n.er _ a L.er w fun p xs l F1 H1 s1 hp h1 hf r1 w1 => hb B env F1 σ H1 _ n.er _ (a.step s1) L.er w1 fun p2 ys m F2 H2 s2 hp2 h2 hf2 r2 w2 => by
    have g1 := s2.hh _ _ h1
    have f1 := s2.nw p hf (by rw [h1]; exact fun z => nomatch z)
    have a1 := a.setNew (i := i) (s1.trans s2) hp g1 f1 (RepA.mono s2.ff r1)
    have hne : p ≠ p2 := ne_of_none h1 hp2
    refine ⟨.ref p, .ref p2, rfl, L.nx _ F2 _ H2 (a1.setMine (sv := .own m) trivial ⟨p2, ys, rfl, h2, r2, hf2, a.st.hh.free (s1.hh.free hp2)⟩ fun k t hk e mt z => ?_) w2⟩
    rcases get_set e with ⟨rfl, rfl⟩ | ⟨hki, e'⟩
    · rcases get_set z with ⟨_, z⟩ | ⟨z, _⟩
      · cases z
        exact hne rfl
      · exact z rfl
    · rw [List.getElem?_set_ne (fun y => hki y.symm)] at z
      exact (a.sl k t e').there mt z (s1.hh.free hp2)
/-- x += e -/
def sAug (i : Nat) (f : Int → Int → Int) (we : WE) : WS := fun n env => match env[i]? with
  | some (.d (.int x)) => we env n.er fun y => match y with
    | .int z => n.nx (env.set i (.d (.int (f x z))))
    | _ => False
  | _ => False
theorem sims_aug {f : Int → Int → Int} (h : SimE K E te we) : SimS K E (tAug i te (ipI f)) (sAug i f we) := fun B Dd n L env F σ H a w => by
  unfold sAug at w
  split at w
  · rename_i x e
    obtain ⟨vx, ex, rx⟩ := a.var e
    cases rx
    refine ⟨_, ex, h B env F σ H _ n.er _ a L.er w fun y d F1 H1 s1 r1 w1 => ?_⟩
    cases r1 with
    | int z => exact ⟨x, z, rfl, rfl, L.nx _ F1 _ H1 ((a.step s1).set (.int (f x z))) w1⟩
    | _ => exact w1.elim
  · exact w.elim
/-- xs.append(e), one's own list -/
def sApp (i : Nat) (we : WE) : WS := fun n env => match env[i]? with
  | some (.own l) => we env n.er fun d => l.length < sizeLine ∧ n.nx (env.set i (.own (l ++ [d])))
  | _ => False
theorem sims_app (h : SimE K E te we) : SimS K E (tDrop (tBM K "list" rAppend (tVar i) (tCons te tNil))) (sApp i we) := fun B Dd n L env F σ H a w => by
  unfold sApp at w
  split at w
  · rename_i l e
    obtain ⟨p, xs, ex, h1, r, h2, h3⟩ := a.sl i _ e
    refine ⟨.ref p, ex, .inl ⟨rfl, xs, SqL.of h1⟩, h B env F σ H _ n.er _ a L.er w fun x d F1 H1 s1 r1 w1 => ?_⟩
    have g1 := s1.hh _ _ h1
    refine ⟨p, xs, x, rfl, rfl, g1, by rw [r.len]; exact w1.1, ?_⟩
    exact L.nx _ F1 _ _ ((a.step s1).change e trivial ex (s1.nw p h2 (by rw [h1]; exact fun z => nomatch z)) h3 ((RepA.mono s1.ff r).app (.one r1))) w1.2
  · exact w.elim
/-- from here on found is a list as any other -/
def sFrz (i : Nat) (w : WS) : WS := fun n env => match env[i]? with
  | some (.own l) => w n (env.set i (.d (.lst l)))
  | _ => False
theorem sims_frz (h : SimS K E ts ws) : SimS K E ts (sFrz i ws) := fun B Dd n L env F σ H a w => by
  unfold sFrz at w
  split at w
  · rename_i l e
    obtain ⟨p, xs, ex, h1, r, h2, h3⟩ := a.sl i _ e
    exact h B Dd n L _ _ σ H (a.freeze e ex h1 h2 h3 r) w
  · exact w.elim
/-- this way is never gone -/
theorem sims_no (h : SimS K E ts ws) (e : ∀ n env, ws' n env → ws n env) : SimS K E ts ws' := fun B Dd n L env F σ H a w => h B Dd n L env F σ H a (e n env w)

/-! ### the floor is raised -/
theorem Stp.up {F0 F1 F3 H0 H1 H3 : Hp} (s : Stp F1 F3 H0 H3) (s1 : Stp F0 F1 H0 H1) : Stp F0 F3 H0 H3 := ⟨s1.ff.trans s.ff, s.hh, s.fh, fun a h1 h2 => s.nw a (s1.nw a h1 h2) h2⟩
theorem Stp.dn {F0 F1 F3 H0 H1 H3 : Hp} (s : Stp F0 F3 H0 H3) (s1 : Stp F0 F1 H0 H1) (e : Same F1 F3) : Stp F1 F3 H0 H3 := ⟨e, s.hh, s.fh, fun a h1 h2 => s.nw a (s1.ff.free h1) h2⟩
theorem At.up {B : Ent} {env : EV} {F1 F3 H1 H3 : Hp} {σ : St} (a : At K ⟨F1, B.H⟩ env F3 σ H3) (s1 : Stp B.F F1 B.H H1) : At K B env F3 σ H3 := ⟨a.len, a.st.up s1, a.sl, a.inj⟩
theorem At.dn {B : Ent} {env : EV} {F1 F3 H1 H3 : Hp} {σ : St} (a : At K B env F3 σ H3) (s1 : Stp B.F F1 B.H H1) (e : Same F1 F3) : At K ⟨F1, B.H⟩ env F3 σ H3 := ⟨a.len, a.st.dn s1 e, a.sl, a.inj⟩

/-! ### loops -/
/-- over some items -/
def sLoop (body : WS) (g : D → EV → (EV → Prop) → Prop) (n : DN) : List D → EV → Prop
  | [], env => n.nx env
  | x :: r, env => g x env fun env1 => body { n with nx := sLoop body g n r, ct := sLoop body g n r, bk := n.nx } env1
/-- a target -/
def SimG (K : PySem.W.Frag) (js : List Nat) (tg : TG) (g : D → EV → (EV → Prop) → Prop) : Prop := ∀ (B : Ent) (env : EV) (F : Hp) (σ : St) (H : Hp) (x : V) (d : D) (Q : St → Hp → Prop) (q : EV → Prop), At K B env F σ H → Rep K F x d → g d env q →
  (∀ env' σ', At K B env' F σ' H → σ'.length = σ.length → (∀ i, i ∉ js → σ'[i]? = σ[i]?) → q env' → Q σ' H) → tg x σ H Q
def gVar (i : Nat) : D → EV → (EV → Prop) → Prop := fun d env q => q (env.set i (.d d))
theorem off1 {α : Type} {l : List α} {i k : Nat} {x : α} (h : k ∉ [i]) : (l.set i x)[k]? = l[k]? := List.getElem?_set_ne fun z => h (by simp [z])
theorem simg_name {i : Nat} : SimG K [i] (gName i) (gVar i) := fun B env F σ H x d Q q a r w k => k _ _ (a.set r) (by rw [List.length_set]) (fun _ h => off1 h) w
def gTwo (i j : Nat) : D → EV → (EV → Prop) → Prop := fun d env q => match d with
  | .tup [x, y] => q ((env.set i (.d x)).set j (.d y))
  | _ => False
theorem simg_two {i j : Nat} : SimG K [i, j] (gTup K 2 (gCons (gName i) (gCons (gName j) gNil))) (gTwo i j) := fun B env F σ H x d Q q a r w k => by
  unfold gTwo at w
  split at w
  · rename_i y z
    cases r with
    | tup h1 h2 =>
      cases h2 with
      | cons r1 h2 =>
        cases h2 with
        | cons r2 h2 =>
          cases h2
          refine ⟨_, _, rfl, same_t a.fh h1, rfl, _, _, rfl, _, _, rfl, rfl, k _ _ ((a.set r1).set r2) (by rw [List.length_set, List.length_set]) (fun n h => ?_) w⟩
          rw [off1 (fun z => h (by simp at z; simp [z])), off1 (fun z => h (by simp at z; simp [z]))]
  · exact w.elim
theorem drop_get {α : Type} {l : List α} {i : Nat} {x : α} (h : l[i]? = some x) : l.drop i = x :: l.drop (i + 1) := by
  have hi := lt_of_get h
  rw [List.drop_eq_getElem_cons hi]
  rw [List.getElem?_eq_getElem hi] at h
  rw [Option.some.inj h]
/-- an iterator over items that are known -/
def Wk (K : PySem.W.Frag) (J : It) (F0 : Hp) (ds : List D) : Prop := ∀ (i : Nat) (F H : Hp), Same F0 F → Same F H → (∀ d, ds[i]? = some d → J.go i H ∧ ∀ x H', J.yld i H x H' → ∃ F', Stp F F' H H' ∧ Rep K F' x d) ∧ (i = ds.length → J.stop i H)
abbrev WI := EV → ER → (List D → Prop) → Prop
def SimI (K : PySem.W.Frag) (E : XK) (wi : TI) (w : WI) : Prop := ∀ (B : Ent) (env : EV) (F : Hp) (σ : St) (H : Hp) (R : It → Hp → Prop) (er : ER) (q : List D → Prop), At K B env F σ H → EL K B E er → w env er q →
  (∀ (J : It) (ds : List D) (F' H' : Hp), Stp F F' H H' → Wk K J F' ds → q ds → R J H') → wi σ H R
def sFor (wi : WI) (g : D → EV → (EV → Prop) → Prop) (body : WS) : WS := fun n env => wi env n.er fun l => sLoop body g n l env
theorem sims_for {wi : TI} {wl : WI} {js : List Nat} {tg : TG} {g : D → EV → (EV → Prop) → Prop} (hl : SimI K E wi wl) (hg : SimG K js tg g) (hb : SimS K E ts ws) : SimS K E (tFor wi tg ts) (sFor wl g ws) := fun B Dd n L env F σ H a w =>
  hl B env F σ H _ n.er _ a L.er w fun J l F1 H1 s1 wk w2 => by
    obtain ⟨P, hP⟩ : ∃ P : Nat → St → Hp → Prop, P = fun i σ' H' => ∃ env' F', At K B env' F' σ' H' ∧ Same F1 F' ∧ sLoop ws g n (l.drop i) env' := ⟨_, rfl⟩
    refine ⟨fun i m σ' H' => m = l.length - i ∧ i ≤ l.length ∧ P i σ' H', ⟨l.length, by simp, Nat.zero_le _, by rw [hP]; exact ⟨env, F1, a.step s1, Same.refl _, by rw [List.drop_zero]; exact w2⟩⟩, ?_⟩
    rintro i m σ' H' ⟨rfl, hi, h⟩
    rw [hP] at h
    obtain ⟨env', F', a', sf, wz⟩ := h
    obtain ⟨k1, k2⟩ := wk i F' H' sf a'.fh
    by_cases hlt : i < l.length
    · obtain ⟨dy, hd⟩ : ∃ dy, l[i]? = some dy := ⟨_, List.getElem?_eq_getElem hlt⟩
      obtain ⟨kg, ky⟩ := k1 dy hd
      refine .inr ⟨kg, P (i + 1), fun σ2 H2 p2 => ⟨l.length - (i + 1), by omega, rfl, hlt, p2⟩, fun y H2 hy => ?_⟩
      obtain ⟨F2, s2, ry⟩ := ky y H2 hy
      rw [drop_get hd] at wz
      have up : ∀ {env3 : EV} {F3 : Hp} {σ3 : St} {H3 : Hp}, At K ⟨F1, B.H⟩ env3 F3 σ3 H3 → At K B env3 F3 σ3 H3 := fun a3 => a3.up (a.step s1).st
      refine hg ⟨F1, B.H⟩ env' F2 σ' H2 y dy _ _ ((a'.step s2).dn (a.step s1).st (sf.trans s2.ff)) ry wz fun env2 σ2 a2 _ _ w3 => ?_
      exact hb ⟨F1, B.H⟩ { Dd with nx := P (i + 1), ct := P (i + 1), bk := Dd.nx } { n with nx := sLoop ws g n (l.drop (i + 1)), ct := sLoop ws g n (l.drop (i + 1)), bk := n.nx } ⟨fun env3 F3 σ3 H3 a3 w4 => by rw [hP]; exact ⟨env3, F3, up a3, a3.st.ff, w4⟩, fun x d F3 H3 s3 r3 w4 => L.rt x d F3 H3 (s3.up (a.step s1).st) r3 w4, fun env3 F3 σ3 H3 a3 w4 => L.nx _ _ _ _ (up a3) w4, fun env3 F3 σ3 H3 a3 w4 => by rw [hP]; exact ⟨env3, F3, up a3, a3.st.ff, w4⟩,
        fun C d fs F3 H3 s3 r3 w4 => L.er C d fs F3 H3 (s3.up (a.step s1).st) r3 w4⟩ env2 F2 σ2 H2 a2 w3
    · have e : i = l.length := by omega
      subst e
      rw [List.drop_length] at wz
      exact .inl ⟨k2 rfl, L.nx env' F' σ' H' a' wz⟩

/-! ### what is walked -/
def iSeq (we : WE) : WI := fun env er q => we env er fun d => match d with
  | .lst l => q l
  | .tup l => q l
  | .scr ns => q (ns.map .int)
  | .str x => q (x.cps.toList.map fun c => .str ⟨#[c]⟩)
  | _ => False
def iLst (we : WE) : WI := fun env er q => we env er fun d => match d with
  | .lst l => q l
  | .scr ns => q (ns.map .int)
  | _ => False
theorem wk_list {F0 : Hp} {a : Addr} {xs : List V} {ds : List D} (h : SqL K F0 a xs) (r : RepA K F0 xs ds) : Wk K (Itl K a) F0 ds := fun i F H sf fh => by
  have hH : SqL K H a xs := fh.seq (sf.seq h)
  refine ⟨fun d hd => ?_, fun e => ⟨xs, hH, by rw [r.len, e]; exact Nat.le_refl _⟩⟩
  obtain ⟨x, hx, rx⟩ := r.getD hd
  refine ⟨⟨xs, x, hH, hx⟩, fun y H' hy => ?_⟩
  obtain ⟨rfl, hy⟩ := hy
  have e := hy xs hH
  rw [hx] at e
  cases e
  exact ⟨F, Stp.refl fh, rx.mono sf⟩
theorem wk_tup {F0 : Hp} {a : Addr} {xs : List V} {ds : List D} (h : SqT K F0 a xs) (r : RepA K F0 xs ds) : Wk K (Itt K a) F0 ds := fun i F H sf fh => by
  have hH : SqT K H a xs := same_t fh (same_t sf h)
  refine ⟨fun d hd => ?_, fun e => ⟨xs, hH, by rw [r.len, e]; exact Nat.le_refl _⟩⟩
  obtain ⟨x, hx, rx⟩ := r.getD hd
  refine ⟨⟨xs, x, hH, hx⟩, fun y H' hy => ?_⟩
  obtain ⟨rfl, hy⟩ := hy
  have e := hy xs hH
  rw [hx] at e
  cases e
  exact ⟨F, Stp.refl fh, rx.mono sf⟩
theorem simi_list {tl : TE} {wl : WE} (h : SimE K E tl wl) : SimI K E (iList K tl) (iLst wl) := fun B env F σ H R er q a l w k =>
  h B env F σ H _ er _ a l w fun x d F1 H1 s1 r1 w1 => by
    cases r1 with
    | lst h1 h2 => exact ⟨_, rfl, ⟨_, SqL.of (s1.fh _ _ h1)⟩, k _ _ F1 H1 s1 (wk_list (SqL.of h1) h2) w1⟩
    | scr h1 => exact ⟨_, rfl, ⟨_, s1.fh.seq h1⟩, k _ _ F1 H1 s1 (wk_list h1 (RepA.ints _)) w1⟩
    | _ => exact w1.elim
def iTupW (we : WE) : WI := fun env er q => we env er fun d => match d with
  | .tup l => q l
  | _ => False
theorem simi_tup {tl : TE} {wl : WE} (h : SimE K E tl wl) : SimI K E (iTup K tl) (iTupW wl) := fun B env F σ H R er q a l w k =>
  h B env F σ H _ er _ a l w fun x d F1 H1 s1 r1 w1 => by
    cases r1 with
    | tup h1 h2 => exact ⟨_, rfl, ⟨_, same_t s1.fh h1⟩, k _ _ F1 H1 s1 (wk_tup h1 h2) w1⟩
    | _ => exact w1.elim
def rngD (lo : Int) (n : Nat) : List D := (List.range n).map fun i => .int (lo + (i : Nat))
theorem wk_rng {F0 : Hp} {lo : Int} {n : Nat} : Wk K (Itr lo n) F0 (rngD lo n) := fun i F H _ fh => by
  unfold rngD
  refine ⟨fun d hd => ?_, fun e => ?_⟩
  · have hi := lt_of_get hd
    rw [List.length_map, List.length_range] at hi
    rw [List.getElem?_map, List.getElem?_range hi] at hd
    cases hd
    refine ⟨hi, fun y H' hy => ?_⟩
    obtain ⟨rfl, rfl⟩ := hy
    exact ⟨F, Stp.refl fh, .int _⟩
  · rw [List.length_map, List.length_range] at e
    exact Nat.le_of_eq e.symm
def iRg1 (wa : WA) : WI := fun env er q => wa env er fun ds => match ds with
  | [.int n] => -(2 ^ 62) ≤ n ∧ n < 2 ^ 62 ∧ q (rngD 0 n.toNat)
  | _ => False
theorem simi_rng1 {ta : TA} {wa : WA} (h : SimA K E ta wa) : SimI K E (iRng1 ta) (iRg1 wa) := fun B env F σ H R er q a l w k =>
  h B env F σ H _ er _ a l w fun xs ds F1 H1 s1 r1 w1 => by
    split at w1
    · cases r1 with
      | cons r1 r2 =>
        cases r1
        cases r2
        exact ⟨_, rfl, w1.1, w1.2.1, k _ _ F1 H1 s1 wk_rng w1.2.2⟩
    · exact w1.elim
def iRg2 (wa : WA) : WI := fun env er q => wa env er fun ds => match ds with
  | [.int i, .int j] => (-(2 ^ 62) ≤ i ∧ i < 2 ^ 62 ∧ -(2 ^ 62) ≤ j ∧ j < 2 ^ 62) ∧ q (rngD i (j - i).toNat)
  | _ => False
theorem simi_rng2 {ta : TA} {wa : WA} (h : SimA K E ta wa) : SimI K E (iRng2 ta) (iRg2 wa) := fun B env F σ H R er q a l w k =>
  h B env F σ H _ er _ a l w fun xs ds F1 H1 s1 r1 w1 => by
    split at w1
    · cases r1 with
      | cons r1 r2 =>
        cases r1
        cases r2 with
        | cons r2 r3 =>
          cases r2
          cases r3
          exact ⟨_, _, rfl, w1.1, k _ _ F1 H1 s1 wk_rng w1.2⟩
    · exact w1.elim
def iSt (we : WE) : WI := fun env er q => we env er fun d => match d with
  | .str x => q (x.cps.toList.map fun c => .str ⟨#[c]⟩)
  | _ => False
theorem wk_str {F0 : Hp} {x : Str} : Wk K (Its x) F0 (x.cps.toList.map fun c => .str ⟨#[c]⟩) := fun i F H _ fh => by
  refine ⟨fun d hd => ?_, fun e => ?_⟩
  · have hi := lt_of_get hd
    rw [List.length_map, Array.length_toList] at hi
    rw [List.getElem?_map, Array.getElem?_toList] at hd
    refine ⟨hi, fun y H' hy => ?_⟩
    obtain ⟨rfl, c, hc, rfl⟩ := hy
    rw [hc] at hd
    cases hd
    exact ⟨F, Stp.refl fh, .str _⟩
  · rw [List.length_map, Array.length_toList] at e
    exact Nat.le_of_eq e.symm
theorem simi_str {tl : TE} {wl : WE} (h : SimE K E tl wl) : SimI K E (iStr tl) (iSt wl) := fun B env F σ H R er q a l w k =>
  h B env F σ H _ er _ a l w fun x d F1 H1 s1 r1 w1 => by
    cases r1 with
    | str x => exact ⟨x, rfl, k _ _ F1 H1 s1 wk_str w1⟩
    | _ => exact w1.elim

/-! ### while -/
def sIter (wt : WT) (body : WS) (n : DN) : Nat → EV → Prop
  | 0, _ => False
  | m + 1, env => wt env n.er fun b => (b = true → body { n with nx := sIter wt body n m, ct := sIter wt body n m, bk := n.nx } env) ∧ (b = false → n.nx env)
def sWhile (wt : WT) (body : WS) : WS := fun n env => ∃ m, sIter wt body n m env
theorem sims_while (ht : SimT K E tt wt) (hb : SimS K E ts ws) : SimS K E (tWhile tt ts) (sWhile wt ws) := fun B Dd n L env F σ H a w => by
  obtain ⟨P, hP⟩ : ∃ P : Nat → St → Hp → Prop, P = fun m σ' H' => ∃ env' F', At K B env' F' σ' H' ∧ sIter wt ws n m env' := ⟨_, rfl⟩
  obtain ⟨m0, w⟩ := w
  refine ⟨P, ⟨m0, by rw [hP]; exact ⟨env, F, a, w⟩⟩, fun m σ' H' h => ?_⟩
  rw [hP] at h
  obtain ⟨env', F', a', w'⟩ := h
  cases m with
  | zero => exact w'.elim
  | succ m =>
    refine ht B env' F' σ' H' _ n.er _ a' L.er w' fun b F2 H2 s2 w2 => ?_
    cases b with
    | true =>
      show (if true = true then _ else _)
      rw [if_pos rfl]
      refine ⟨P m, fun σ3 H3 h3 => ⟨m, Nat.lt_succ_self _, h3⟩, ?_⟩
      exact hb B { Dd with nx := P m, ct := P m, bk := Dd.nx } { n with nx := sIter wt ws n m, ct := sIter wt ws n m, bk := n.nx } ⟨fun env3 F3 σ3 H3 a3 w4 => by rw [hP]; exact ⟨env3, F3, a3, w4⟩, L.rt, L.nx, fun env3 F3 σ3 H3 a3 w4 => by rw [hP]; exact ⟨env3, F3, a3, w4⟩, L.er⟩ env' F2 σ' H2 (a'.step s2) (w2.1 rfl)
    | false =>
      show (if false = true then _ else _)
      rw [if_neg Bool.false_ne_true]
      exact L.nx env' F2 σ' H2 (a'.step s2) (w2.2 rfl)

/-! ### comprehensions -/
def wipeE (env : EV) : List Nat → EV
  | [] => env
  | v :: vs => (wipeE env vs).set v .un
theorem At.wipe {B : Ent} {env : EV} {F H : Hp} {σ : St} (a : At K B env F σ H) : ∀ vs : List Nat, At K B (wipeE env vs) F (wipe σ vs) H
  | [] => a
  | v :: vs => (At.wipe a vs).unset none
theorem wipe_get {σ : St} {i : Nat} : ∀ {vs : List Nat}, i ∉ vs → (wipe σ vs)[i]? = σ[i]?
  | [], _ => rfl
  | v :: vs, h => by
    unfold wipe
    rw [List.getElem?_set_ne (fun z => h (by simp [z])), wipe_get (fun z => h (by simp [z]))]
theorem wipe_in {σ : St} {i : Nat} : ∀ {vs : List Nat}, i ∈ vs → i < σ.length → (wipe σ vs)[i]? = some none
  | v :: vs, h, hl => by
    unfold wipe
    by_cases e : v = i
    · subst e
      rw [List.getElem?_set_self (by rw [wipe_length]; exact hl)]
    · rw [List.getElem?_set_ne e]
      refine wipe_in ?_ hl
      rcases List.mem_cons.mp h with z | z
      · exact absurd z.symm e
      · exact z
theorem wipe_eq {σ σ2 : St} {vs js : List Nat} (hj : ∀ j ∈ js, j ∈ vs) (hl : σ2.length = (wipe σ vs).length) (h : ∀ i, i ∉ js → σ2[i]? = (wipe σ vs)[i]?) : wipe σ2 vs = wipe σ vs := by
  have hl2 : σ2.length = σ.length := by rw [hl, wipe_length]
  apply List.ext_getElem?
  intro i
  by_cases hi : i ∈ vs
  · by_cases hlt : i < σ.length
    · rw [wipe_in hi (by rw [hl2]; exact hlt), wipe_in hi hlt]
    · rw [List.getElem?_eq_none (by rw [wipe_length, hl2]; omega), List.getElem?_eq_none (by rw [wipe_length]; omega)]
  · rw [wipe_get hi, h i (fun z => hi (hj i z))]
def wComp (g : D → EV → (EV → Prop) → Prop) (wt : WT) (we : WE) (ew : EV) (er : ER) (q : List D → Prop) : List D → List D → Prop
  | [], acc => q acc
  | x :: r, acc => g x ew fun env2 => wt env2 er fun b => (b = true → we env2 er fun y => acc.length < sizeLine ∧ wComp g wt we ew er q r (acc ++ [y])) ∧ (b = false → wComp g wt we ew er q r acc)
def wLc (wi : WI) (g : D → EV → (EV → Prop) → Prop) (wt : WT) (we : WE) (vs : List Nat) : WO := fun env er q => wi env er fun ds => wComp g wt we (wipeE env vs) er q ds []
theorem simo_lc {wi : TI} {wl : WI} {js vs : List Nat} {tg : TG} {g : D → EV → (EV → Prop) → Prop} (hl : SimI K E wi wl) (hg : SimG K js tg g) (ht : SimT K E tt wt) (he : SimE K E te we) (hj : ∀ j ∈ js, j ∈ vs) :
    SimO K E (tLc wi tg tt te vs) (wLc wl g wt we vs) := fun B env F σ H Q er q a l w k =>
  hl B env F σ H _ er _ a l w fun J ds F1 H1 s1 wk w2 => fun Dl hD => by
    have a1 := a.step s1
    have hDF : F1 Dl = none := s1.fh.free hD
    have hDH : H Dl = none := s1.hh.free hD
    obtain ⟨P, hP⟩ : ∃ P : Nat → Hp → Prop, P = fun i H' => ∃ (F' : Hp) (acc : List D) (xs : List V), Stp F1 F' H1 H' ∧ H' Dl = some (.lst xs) ∧ F' Dl = none ∧ RepA K F' xs acc ∧ wComp g wt we (wipeE env vs) er q (ds.drop i) acc := ⟨_, rfl⟩
    refine ⟨fun i m H' => m = ds.length - i ∧ i ≤ ds.length ∧ P i H', ⟨ds.length, by simp, Nat.zero_le _, by rw [hP]; exact ⟨F1, [], [], Stp.fresh s1.fh hD, upd_same, hDF, .nil, by rw [List.drop_zero]; exact w2⟩⟩, ?_⟩
    rintro i m H' ⟨rfl, hi, h⟩
    rw [hP] at h
    obtain ⟨F', acc, xs, s', h1, h2, r, wz⟩ := h
    obtain ⟨k1, k2⟩ := wk i F' H' s'.ff s'.fh
    by_cases hlt : i < ds.length
    · obtain ⟨dy, hd⟩ : ∃ dy, ds[i]? = some dy := ⟨_, List.getElem?_eq_getElem hlt⟩
      obtain ⟨kg, ky⟩ := k1 dy hd
      refine .inr ⟨kg, P (i + 1), fun H2 p2 => ⟨ds.length - (i + 1), by omega, rfl, hlt, p2⟩, fun y H2 hy => ?_⟩
      obtain ⟨F2, s2, ry⟩ := ky y H2 hy
      rw [drop_get hd] at wz
      have aw : At K B (wipeE env vs) F2 (wipe σ vs) H2 := ((a1.step s').step s2).wipe vs
      refine hg B _ F2 _ H2 y dy _ _ aw ry wz fun env2 σ2 a2 len2 off w3 => ⟨wipe_eq hj len2 off, ?_⟩
      · refine ht B env2 F2 σ2 H2 _ er _ a2 l w3 fun b F3 H3 s3 w4 => ?_
        have d3 : H3 Dl = some (.lst xs) := s3.hh _ _ (s2.hh _ _ h1)
        have f3 : F3 Dl = none := s3.nw _ (s2.nw _ h2 (by rw [h1]; exact fun z => nomatch z)) (by rw [s2.hh _ _ h1]; exact fun z => nomatch z)
        cases b with
        | true =>
          show (if true = true then _ else _)
          rw [if_pos rfl]
          refine he B env2 F3 σ2 H3 _ er _ (a2.step s3) l (w4.1 rfl) fun z dz F4 H4 s4 r4 w5 => ?_
          have d4 : H4 Dl = some (.lst xs) := s4.hh _ _ d3
          have f4 : F4 Dl = none := s4.nw _ f3 (by rw [d3]; exact fun z => nomatch z)
          refine ⟨xs, d4, by rw [r.len]; exact w5.1, ?_⟩
          rw [hP]
          have st := ((s'.trans s2).trans s3).trans s4
          exact ⟨F4, acc ++ [dz], xs ++ [z], st.mut hD f4, upd_same, f4, (RepA.mono ((s2.trans s3).trans s4).ff r).app (.one r4), w5.2⟩
        | false =>
          show (if false = true then _ else _)
          rw [if_neg Bool.false_ne_true, hP]
          exact ⟨F3, acc, xs, (s'.trans s2).trans s3, d3, f3, RepA.mono (s2.trans s3).ff r, w4.2 rfl⟩
    · have e : i = ds.length := by omega
      subst e
      rw [List.drop_length] at wz
      exact .inl ⟨k2 rfl, k Dl xs acc F' H' (s1.trans s') hDH h1 h2 r wz⟩
end
end DL
/-! DL3: operators, subscripts, built-ins over data; a def's promise. -/
namespace DL
open PySem L2
section
variable {K : PySem.W.Frag} {E : XK} {ta tb tc te : TE} {wa wb wc we : WE} {X : Cx}

/-! ### + - * // % ** -/
def rAddD (K : PySem.W.Frag) : R2 := fun x y H Q => (rI0 (fun i j => .int (i + j))) x y H Q ∨ (∃ i j, x = .str i ∧ y = .str j ∧ i.length + j.length ≤ sizeLine ∧ Q (.str (i ++ j)) H) ∨ rCat x y H Q ∨ rCatA K x y H Q
theorem op_addD : OpR X (binaryOp .Add) (rAddD X.K) := OpR.or op_add (OpR.or op_add_str (OpR.or op_cat op_catA))
def dAdd : D → D → (D → Prop) → Prop
  | .int i, .int j, q => q (.int (i + j))
  | .str s, .str t, q => s.length + t.length ≤ sizeLine ∧ q (.str (s ++ t))
  | .lst a, .lst b, q => a.length + b.length ≤ sizeLine ∧ q (.lst (a ++ b))
  | .tup a, .tup b, q => a.length + b.length ≤ sizeLine ∧ q (.tup (a ++ b))
  | _, _, _ => False
theorem sim_add : Sim2 K (rAddD K) dAdd := fun F H x y d e Q q s r1 r2 w k => by
  cases r1 with
  | int i =>
    cases r2 with
    | int j => exact .inl ⟨i, j, rfl, rfl, k.here s (.int _) w⟩
    | _ => exact w.elim
  | str i =>
    cases r2 with
    | str j => exact .inr (.inl ⟨i, j, rfl, rfl, w.1, k.here s (.str _) w.2⟩)
    | _ => exact w.elim
  | lst h1 a1 =>
    cases r2 with
    | lst h2 a2 =>
      exact .inr (.inr (.inl ⟨_, _, _, _, rfl, rfl, s _ _ h1, s _ _ h2, by rw [a1.len, a2.len]; exact w.1, fun p hp =>
        k _ _ _ _ (Stp.new s hp) (.lst upd_same ((a1.app a2).mono (same_new (s.free hp)))) w.2⟩))
    | _ => exact w.elim
  | @tup a1 xs1 l1 h1 a1' =>
    cases r2 with
    | @tup a2 xs2 l2 h2 a2' =>
      refine .inr (.inr (.inr ⟨_, _, _, _, rfl, rfl, same_t s h1, same_t s h2, by rw [a1'.len, a2'.len]; exact w.1, fun e => ?_, fun _ e => ?_, fun _ _ p hp => ?_⟩))
      · subst e
        cases a1'
        exact k.here s (.tup h2 a2') w.2
      · subst e
        cases a2'
        have w2 := w.2
        rw [List.append_nil] at w2
        exact k.here s (.tup h1 a1') w2
      · exact k _ _ _ _ (Stp.new s hp) (.tup (.inl (.inl upd_same)) ((a1'.app a2').mono (same_new (s.free hp)))) w.2
    | _ => exact w.elim
  | _ => exact w.elim
abbrev rSubD : R2 := rI0 fun i j => .int (i - j)
def dSub : D → D → (D → Prop) → Prop
  | .int i, .int j, q => q (.int (i - j))
  | _, _, _ => False
theorem op_subD : OpR X (binaryOp .Sub) rSubD := op_sub
theorem sim_sub : Sim2 K rSubD dSub := fun F H x y d e Q q s r1 r2 w k => by
  cases r1 with
  | int i =>
    cases r2 with
    | int j => exact ⟨i, j, rfl, rfl, k.here s (.int _) w⟩
    | _ => exact w.elim
  | _ => exact w.elim
def rMulD : R2 := fun x y H Q => (rI CMul fun i j => .int (i * j)) x y H Q ∨ (rI CMulW fun i j => .int (i * j)) x y H Q ∨ rRep x y H Q
theorem op_mulD : OpR X (binaryOp .Mult) rMulD := OpR.or op_mul (OpR.or op_mulW op_rep)
def dMul : D → D → (D → Prop) → Prop
  | .int i, .int j, q => (CMul i j ∨ CMulW i j) ∧ q (.int (i * j))
  | .lst l, .int k, q => (-(2 ^ 63) ≤ k ∧ k < 2 ^ 63 ∧ l.length * k.toNat ≤ sizeLine) ∧ q (.lst (List.replicate k.toNat l).flatten)
  | _, _, _ => False
theorem RepA.rep {F : Hp} {v : List V} {d : List D} (h : RepA K F v d) : ∀ n : Nat, RepA K F (List.replicate n v).flatten (List.replicate n d).flatten
  | 0 => .nil
  | n + 1 => by
    rw [List.replicate_succ, List.flatten_cons, List.replicate_succ, List.flatten_cons]
    exact h.app (RepA.rep h n)
theorem sim_mul : Sim2 K rMulD dMul := fun F H x y d e Q q s r1 r2 w k => by
  cases r1 with
  | int i =>
    cases r2 with
    | int j =>
      rcases w.1 with c | c
      · exact .inl ⟨i, j, rfl, rfl, c, k.here s (.int _) w.2⟩
      · exact .inr (.inl ⟨i, j, rfl, rfl, c, k.here s (.int _) w.2⟩)
    | _ => exact w.elim
  | lst h1 a1 =>
    cases r2 with
    | int j =>
      exact .inr (.inr ⟨_, j, _, rfl, rfl, s _ _ h1, w.1.1, w.1.2.1, by rw [a1.len]; exact w.1.2.2, fun p hp => k _ _ _ _ (Stp.new s hp) (.lst upd_same ((a1.rep _).mono (same_new (s.free hp)))) w.2⟩)
    | _ => exact w.elim
  | _ => exact w.elim
abbrev rDivD : R2 := rI CDivW fun i j => .int (i / j)
def dDiv : D → D → (D → Prop) → Prop
  | .int i, .int j, q => CDivW i j ∧ q (.int (i / j))
  | _, _, _ => False
theorem op_divD : OpR X (binaryOp .FloorDiv) rDivD := op_fdivW
theorem sim_div : Sim2 K rDivD dDiv := fun F H x y d e Q q s r1 r2 w k => by
  cases r1 with
  | int i =>
    cases r2 with
    | int j => exact ⟨i, j, rfl, rfl, w.1, k.here s (.int _) w.2⟩
    | _ => exact w.elim
  | _ => exact w.elim
abbrev rModD : R2 := rI (fun _ j => 0 < j) fun i j => .int (i % j)
def dMod : D → D → (D → Prop) → Prop
  | .int i, .int j, q => 0 < j ∧ q (.int (i % j))
  | _, _, _ => False
theorem op_modD : OpR X (binaryOp .Mod) rModD := op_mod
theorem sim_mod : Sim2 K rModD dMod := fun F H x y d e Q q s r1 r2 w k => by
  cases r1 with
  | int i =>
    cases r2 with
    | int j => exact ⟨i, j, rfl, rfl, w.1, k.here s (.int _) w.2⟩
    | _ => exact w.elim
  | _ => exact w.elim
abbrev rPowD : R2 := rI CPow fun i j => .int (i ^ j.toNat)
def dPow : D → D → (D → Prop) → Prop
  | .int i, .int j, q => CPow i j ∧ q (.int (i ^ j.toNat))
  | _, _, _ => False
theorem op_powD : OpR X (binaryOp .Pow) rPowD := op_pow
theorem sim_pow : Sim2 K rPowD dPow := fun F H x y d e Q q s r1 r2 w k => by
  cases r1 with
  | int i =>
    cases r2 with
    | int j => exact ⟨i, j, rfl, rfl, w.1, k.here s (.int _) w.2⟩
    | _ => exact w.elim
  | _ => exact w.elim
abbrev rNegD : V → Hp → VK → Prop := rU fun i => .int (-i)
def dNeg : D → (D → Prop) → Prop
  | .int i, q => q (.int (-i))
  | _, _ => False
theorem un_negD : UnR X (unaryOp .USub) rNegD := un_neg
theorem sim_neg : Sim1 K rNegD dNeg := fun F H x d Q q s r w k => by
  cases r with
  | int i => exact ⟨i, rfl, k.here s (.int _) w⟩
  | _ => exact w.elim

/-! ### comparisons -/
def rLtD : R2 := fun x y H Q => (rI0 fun i j => .bl (decide (i < j))) x y H Q ∨ (∃ i j, x = .str i ∧ y = .str j ∧ Q (.bl (decide (i.cps.toList < j.cps.toList))) H)
theorem op_ltD : OpR X (compareOp .Lt) rLtD := OpR.or op_lt op_lt_str
def dLt : D → D → (D → Prop) → Prop
  | .int i, .int j, q => q (.bl (decide (i < j)))
  | .str i, .str j, q => q (.bl (decide (i.cps.toList < j.cps.toList)))
  | _, _, _ => False
theorem sim_lt : Sim2 K rLtD dLt := fun F H x y d e Q q s r1 r2 w k => by
  cases r1 with
  | int i =>
    cases r2 with
    | int j => exact .inl ⟨i, j, rfl, rfl, k.here s (.bl _) w⟩
    | _ => exact w.elim
  | str i =>
    cases r2 with
    | str j => exact .inr ⟨i, j, rfl, rfl, k.here s (.bl _) w⟩
    | _ => exact w.elim
  | _ => exact w.elim
def rLeD : R2 := fun x y H Q => (rI0 fun i j => .bl (decide (i ≤ j))) x y H Q ∨ (∃ i j, x = .str i ∧ y = .str j ∧ Q (.bl (!decide (j.cps.toList < i.cps.toList))) H)
theorem op_leD : OpR X (compareOp .LtE) rLeD := OpR.or op_le op_le_str
def dLe : D → D → (D → Prop) → Prop
  | .int i, .int j, q => q (.bl (decide (i ≤ j)))
  | .str i, .str j, q => q (.bl (!decide (j.cps.toList < i.cps.toList)))
  | _, _, _ => False
theorem sim_le : Sim2 K rLeD dLe := fun F H x y d e Q q s r1 r2 w k => by
  cases r1 with
  | int i =>
    cases r2 with
    | int j => exact .inl ⟨i, j, rfl, rfl, k.here s (.bl _) w⟩
    | _ => exact w.elim
  | str i =>
    cases r2 with
    | str j => exact .inr ⟨i, j, rfl, rfl, k.here s (.bl _) w⟩
    | _ => exact w.elim
  | _ => exact w.elim
abbrev rGtD : R2 := rI0 fun i j => .bl (decide (j < i))
theorem op_gtD : OpR X (compareOp .Gt) rGtD := op_gt
def dGt : D → D → (D → Prop) → Prop
  | .int i, .int j, q => q (.bl (decide (j < i)))
  | _, _, _ => False
theorem sim_gt : Sim2 K rGtD dGt := fun F H x y d e Q q s r1 r2 w k => by
  cases r1 with
  | int i =>
    cases r2 with
    | int j => exact ⟨i, j, rfl, rfl, k.here s (.bl _) w⟩
    | _ => exact w.elim
  | _ => exact w.elim
abbrev rGeD : R2 := rI0 fun i j => .bl (decide (j ≤ i))
theorem op_geD : OpR X (compareOp .GtE) rGeD := op_ge
def dGe : D → D → (D → Prop) → Prop
  | .int i, .int j, q => q (.bl (decide (j ≤ i)))
  | _, _, _ => False
theorem sim_ge : Sim2 K rGeD dGe := fun F H x y d e Q q s r1 r2 w k => by
  cases r1 with
  | int i =>
    cases r2 with
    | int j => exact ⟨i, j, rfl, rfl, k.here s (.bl _) w⟩
    | _ => exact w.elim
  | _ => exact w.elim
def isNon : D → Bool
  | .non => true
  | _ => false
abbrev rIsND : R2 := fun x y H Q => y = .non ∧ Q (.bl (decide (x = .non))) H
def dIsN : D → D → (D → Prop) → Prop := fun d e q => match e with
  | .non => q (.bl (isNon d))
  | _ => False
theorem op_isND : OpR X (compareOp .Is) rIsND := op_isN
theorem isNon_rep {F : Hp} {x : V} {d : D} (r : Rep K F x d) : decide (x = V.non) = isNon d := by
  cases r <;> first | rfl | exact decide_eq_false (fun z => nomatch z)
theorem sim_isN : Sim2 K rIsND dIsN := fun F H x y d e Q q s r1 r2 w k => by
  cases r2 with
  | non =>
    refine ⟨rfl, ?_⟩
    rw [isNon_rep r1]
    exact k.here s (.bl _) w
  | _ => exact w.elim
abbrev rNotND : R2 := fun x y H Q => y = .non ∧ Q (.bl (!decide (x = .non))) H
def dNotN : D → D → (D → Prop) → Prop := fun d e q => match e with
  | .non => q (.bl (!isNon d))
  | _ => False
theorem op_notND : OpR X (compareOp .IsNot) rNotND := op_notN
theorem sim_notN : Sim2 K rNotND dNotN := fun F H x y d e Q q s r1 r2 w k => by
  cases r2 with
  | non =>
    refine ⟨rfl, ?_⟩
    rw [isNon_rep r1]
    exact k.here s (.bl _) w
  | _ => exact w.elim

/-! ### == of data -/
mutual
def pd : D → Option PyData
  | .non => some .none
  | .bl b => some (.bool b)
  | .int i => some (.int i)
  | .str x => some (.str x)
  | .tup l => (pdA l).map .tuple
  | .lst l => (pdA l).map .list
  | _ => none
def pdA : List D → Option (List PyData)
  | [] => some []
  | d :: r => match pd d, pdA r with
    | some p, some ps => some (p :: ps)
    | _, _ => none
end
mutual
theorem dp_of {F H : Hp} (s : Same F H) : ∀ {x : V} {d : D} {p : PyData}, Rep K F x d → pd d = some p → Dp K H x p
  | _, _, _, .non, e => by
    cases e
    exact .non
  | _, _, _, .bl b, e => by
    cases e
    exact .bl b
  | _, _, _, .int i, e => by
    cases e
    exact .int i
  | _, _, _, .str z, e => by
    cases e
    exact .str z
  | _, _, _, .ty n, e => by cases e
  | _, _, _, .tup (l := l) h r, e => by
    unfold pd at e
    cases h2 : pdA l with
    | none =>
      rw [h2] at e
      cases e
    | some ps =>
      rw [h2] at e
      cases e
      exact .tup (same_t s h) (dpA_of s r h2)
  | _, _, _, .lst (l := l) h r, e => by
    unfold pd at e
    cases h2 : pdA l with
    | none =>
      rw [h2] at e
      cases e
    | some ps =>
      rw [h2] at e
      cases e
      exact .lst (SqL.of (s _ _ h)) (dpA_of s r h2)
  | _, _, _, .ins _ _, e => by cases e
  | _, _, _, .obj _, e => by cases e
  | _, _, _, .scr _, e => by cases e
  | _, _, _, .bag _, e => by cases e
theorem dpA_of {F H : Hp} (s : Same F H) : ∀ {xs : List V} {l : List D} {ps : List PyData}, RepA K F xs l → pdA l = some ps → DpAll K H xs ps
  | _, _, _, .nil, e => by
    cases e
    exact .nil
  | _, _, _, .cons (d := d) (ds := ds) h r, e => by
    unfold pdA at e
    cases h1 : pd d with
    | none =>
      rw [h1] at e
      cases e
    | some p =>
      cases h2 : pdA ds with
      | none =>
        rw [h1, h2] at e
        cases e
      | some ps =>
        rw [h1, h2] at e
        cases e
        exact .cons (dp_of s h h1) (dpA_of s r h2)
end
def okD (d : D) : Prop := match pd d with
  | some p => SeqAt.shaped p = true
  | none => False
def eqD (d e : D) : Bool := match pd d, pd e with
  | some p, some q => PyData.eqv p q
  | _, _ => false
def dEq : D → D → (D → Prop) → Prop := fun d e q => okD d ∧ okD e ∧ q (.bl (eqD d e))
def dNe : D → D → (D → Prop) → Prop := fun d e q => okD d ∧ okD e ∧ q (.bl (!eqD d e))
theorem sim_eq : Sim2 K (rEqD K) dEq := fun F H x y d e Q q s r1 r2 w k => by
  obtain ⟨w1, w2, w3⟩ := w
  unfold okD at w1 w2
  unfold eqD at w3
  cases h1 : pd d with
  | none =>
    rw [h1] at w1
    exact w1.elim
  | some p =>
    cases h2 : pd e with
    | none =>
      rw [h2] at w2
      exact w2.elim
    | some p' =>
      rw [h1] at w1 w3
      rw [h2] at w2 w3
      exact ⟨p, p', dp_of s r1 h1, dp_of s r2 h2, w1, w2, k.here s (.bl _) w3⟩
theorem sim_ne : Sim2 K (rNeD K) dNe := fun F H x y d e Q q s r1 r2 w k => by
  obtain ⟨w1, w2, w3⟩ := w
  unfold okD at w1 w2
  unfold eqD at w3
  cases h1 : pd d with
  | none =>
    rw [h1] at w1
    exact w1.elim
  | some p =>
    cases h2 : pd e with
    | none =>
      rw [h2] at w2
      exact w2.elim
    | some p' =>
      rw [h1] at w1 w3
      rw [h2] at w2 w3
      exact ⟨p, p', dp_of s r1 h1, dp_of s r2 h2, w1, w2, k.here s (.bl _) w3⟩

/-! ### subscripts, slices -/
def atD {α : Type} (xs : List α) (i : Int) : Option α := (ixN xs.length i).bind fun j => xs[j]?
theorem at_rep {F : Hp} {xs : List V} {l : List D} {i : Int} {d : D} (r : RepA K F xs l) (h : atD l i = some d) : ∃ x, atI xs i = some x ∧ Rep K F x d := by
  unfold atD at h
  unfold atI
  rw [r.len]
  cases e : ixN l.length i with
  | none =>
    rw [e] at h
    cases h
  | some j =>
    rw [e] at h
    exact r.getD h
def dIx : D → D → (D → Prop) → Prop
  | .lst l, .int i, q => match atD l i with
    | some d => q d
    | none => False
  | .tup l, .int i, q => match atD l i with
    | some d => q d
    | none => False
  | .scr l, .int i, q => match atD l i with
    | some d => q (.int d)
    | none => False
  | .str x, .int i, q => x.length ≤ sizeLine ∧ match atD x.cps.toList i with
    | some c => q (.str ⟨#[c]⟩)
    | none => False
  | _, _, _ => False
theorem sim_ix : Sim2 K (rIx K) dIx := fun F H x y d e Q q s r1 r2 w k => by
  cases r2 with
  | int i =>
    cases r1 with
    | @lst a xs l h1 a1 =>
      have w : (match atD l i with | some d => q d | none => False) := w
      cases e : atD l i with
      | none =>
        rw [e] at w
        exact w.elim
      | some d =>
        rw [e] at w
        obtain ⟨z, ez, rz⟩ := at_rep a1 e
        exact .inl ⟨a, xs, i, z, rfl, rfl, SqL.of (s _ _ h1), ez, k.here s rz w⟩
    | @tup a xs l h1 a1 =>
      have w : (match atD l i with | some d => q d | none => False) := w
      cases e : atD l i with
      | none =>
        rw [e] at w
        exact w.elim
      | some d =>
        rw [e] at w
        obtain ⟨z, ez, rz⟩ := at_rep a1 e
        exact .inr (.inl ⟨a, xs, i, z, rfl, rfl, same_t s h1, ez, k.here s rz w⟩)
    | @scr a l h1 =>
      have w : (match atD l i with | some d => q (.int d) | none => False) := w
      cases e : atD l i with
      | none =>
        rw [e] at w
        exact w.elim
      | some d =>
        rw [e] at w
        refine .inl ⟨a, _, i, .int d, rfl, rfl, s.seq h1, ?_, k.here s (.int d) w⟩
        unfold atI
        unfold atD at e
        rw [List.length_map]
        cases e2 : ixN l.length i with
        | none =>
          rw [e2] at e
          cases e
        | some j =>
          rw [e2] at e
          show (l.map V.int)[j]? = _
          rw [List.getElem?_map, show l[j]? = some d from e]
          rfl
    | str x =>
      have w2 : (match atD x.cps.toList i with | some c => q (.str ⟨#[c]⟩) | none => False) := w.2
      cases e : atD x.cps.toList i with
      | none =>
        rw [e] at w2
        exact w2.elim
      | some c =>
        rw [e] at w2
        exact .inr (.inr ⟨x, i, c, rfl, rfl, w.1, e, k.here s (.str _) w2⟩)
    | _ => exact w.elim
  | _ => cases r1 <;> exact w.elim
/-- an item of one's own list -/
def wIxL (wo : WO) (wb : WE) : WE := fun env er q => wo env er fun l => wb env er fun y => match y with
  | .int i => match atD l i with
    | some d => q d
    | none => False
  | _ => False
theorem sim_ixL {i : Nat} (hb : SimE K E tb wb) : SimE K E (tOp (rIx K) (tVar i) tb) (wIxL (wOwn i) wb) := fun B env F σ H Q er q a l w k => by
  unfold wIxL wOwn at w
  split at w
  · rename_i ls e
    obtain ⟨p, xs, ex, h1, r, h2, h3⟩ := a.sl i _ e
    refine ⟨.ref p, ex, hb B env F σ H _ er _ a l w fun y d F1 H1 s1 r1 w1 => ?_⟩
    cases r1 with
    | int j =>
      have w1 : (match atD ls j with | some d => q d | none => False) := w1
      cases e2 : atD ls j with
      | none =>
        rw [e2] at w1
        exact w1.elim
      | some z =>
        rw [e2] at w1
        obtain ⟨v, ev, rv⟩ := at_rep (r.mono s1.ff) e2
        exact .inl ⟨p, xs, j, v, rfl, rfl, SqL.of (s1.hh _ _ h1), ev, k _ _ F1 H1 s1 rv w1⟩
    | _ => exact w1.elim
  · exact w.elim
abbrev WP := EV → ER → (Option Int → Prop) → Prop
def SimP (K : PySem.W.Frag) (E : XK) (tp : TO) (w : WP) : Prop := ∀ (B : Ent) (env : EV) (F : Hp) (σ : St) (H : Hp) (Q : Option Int → Hp → Prop) (er : ER) (q : Option Int → Prop), At K B env F σ H → EL K B E er → w env er q →
  (∀ (o : Option Int) (F' H' : Hp), Stp F F' H H' → q o → Q o H') → tp σ H Q
def wNoP : WP := fun _ _ q => q none
theorem simp_no : SimP K E tNoPart wNoP := fun B env F σ H Q er q a l w k => k none F H (Stp.refl a.fh) w
def wPart (wa : WE) : WP := fun env er q => wa env er fun x => match x with
  | .int i => q (some i)
  | _ => False
theorem simp_part (h : SimE K E ta wa) : SimP K E (tPart ta) (wPart wa) := fun B env F σ H Q er q a l w k => h B env F σ H _ er _ a l w fun x d F1 H1 s1 r1 w1 => by
  cases r1 with
  | int i => exact ⟨i, rfl, k _ F1 H1 s1 w1⟩
  | _ => exact w1.elim
def cutD {α : Type} (xs : List α) (lo hi : Option Int) : List α := (xs.drop (HT.sIx xs.length 0 lo)).take (HT.sIx xs.length xs.length hi - HT.sIx xs.length 0 lo)
theorem RepA.cut {F : Hp} {v : List V} {d : List D} (h : RepA K F v d) (lo hi : Option Int) : RepA K F (cutV v lo hi) (cutD d lo hi) := by
  unfold cutV cutD
  rw [h.len]
  exact (h.drop _).take _
theorem cut_whole {α : Type} {xs : List α} {lo hi : Option Int} (h : HT.sIx xs.length 0 lo = 0 ∧ HT.sIx xs.length xs.length hi = xs.length) : cutD xs lo hi = xs := by
  unfold cutD
  rw [h.1, h.2, List.drop_zero, Nat.sub_zero, List.take_length]
def rSlD (K : PySem.W.Frag) : V → Option Int → Option Int → Hp → VK → Prop := fun x lo hi H Q => rSlL K x lo hi H Q ∨ rSlA K x lo hi H Q ∨ rSlS x lo hi H Q
theorem sl_D : SlR X (rSlD X.K) := SlR.or sl_list (SlR.or sl_tupA sl_str)
def dSl : D → Option Int → Option Int → (D → Prop) → Prop
  | .lst l, lo, hi, q => q (.lst (cutD l lo hi))
  | .scr l, lo, hi, q => q (.lst ((cutD l lo hi).map .int))
  | .tup l, lo, hi, q => q (.tup (cutD l lo hi))
  | .str x, lo, hi, q => x.length ≤ sizeLine ∧ q (.str (cutS x lo hi))
  | _, _, _, _ => False
def wSl (we : WE) (wl wh : WP) : WE := fun env er q => we env er fun x => wl env er fun lo => wh env er fun hi => dSl x lo hi q
theorem cut_map (ns : List Int) (lo hi : Option Int) : cutV (ns.map V.int) lo hi = (cutD ns lo hi).map V.int := by
  unfold cutV cutD
  rw [List.length_map, List.map_take, List.map_drop]
theorem sim_sl {tl th : TO} {wl wh : WP} (h : SimE K E te we) (hl : SimP K E tl wl) (hh : SimP K E th wh) : SimE K E (tSl (rSlD K) te tl th) (wSl we wl wh) := fun B env F σ H Q er q a l w k =>
  h B env F σ H _ er _ a l w fun x d F1 H1 s1 r1 w1 => hl B env F1 σ H1 _ er _ (a.step s1) l w1 fun lo F2 H2 s2 w2 => hh B env F2 σ H2 _ er _ (a.step (s1.trans s2)) l w2 fun hi F3 H3 s3 w3 => by
    have k3 := k.step ((s1.trans s2).trans s3)
    have r3 := (r1.mono s2.ff).mono s3.ff
    cases r3 with
    | lst h1 a1 => exact .inl ⟨_, _, rfl, SqL.of (s3.fh _ _ h1), fun p hp => k3 _ _ _ _ (Stp.new s3.fh hp) (.lst upd_same ((a1.cut lo hi).mono (same_new (s3.fh.free hp)))) w3⟩
    | scr h1 => exact .inl ⟨_, _, rfl, s3.fh.seq h1, fun p hp => k3 _ _ _ _ (Stp.new s3.fh hp) (.lst upd_same (by rw [cut_map]; exact RepA.ints _)) w3⟩
    | @tup a xs l h1 a1 =>
      refine .inr (.inl ⟨_, _, rfl, same_t s3.fh h1, fun e => ?_, fun _ p hp => ?_⟩)
      · rw [a1.len] at e
        have e2 : cutD l lo hi = l := cut_whole e
        have w4 : q (.tup (cutD l lo hi)) := w3
        rw [e2] at w4
        exact k3.here s3.fh (.tup h1 a1) w4
      · exact k3 _ _ _ _ (Stp.new s3.fh hp) (.tup (.inl (.inl upd_same)) ((a1.cut lo hi).mono (same_new (s3.fh.free hp)))) w3
    | str x => exact .inr (.inr ⟨x, rfl, w3.1, k3.here s3.fh (.str _) w3.2⟩)
    | _ => exact w3.elim
/-- xs[a:b] of one's own list, a new list -/
def wSlO (wo : WO) (wl wh : WP) : WO := fun env er q => wo env er fun x => wl env er fun lo => wh env er fun hi => q (cutD x lo hi)
theorem simo_slOwn {i : Nat} {tl th : TO} {wl wh : WP} (hl : SimP K E tl wl) (hh : SimP K E th wh) : SimO K E (tSl (rSlD K) (tVar i) tl th) (wSlO (wOwn i) wl wh) := fun B env F σ H Q er q a l w k => by
  unfold wSlO wOwn at w
  split at w
  · rename_i ls e
    obtain ⟨p, xs, ex, h1, r, h2, h3⟩ := a.sl i _ e
    refine ⟨.ref p, ex, hl B env F σ H _ er _ a l w fun lo F2 H2 s2 w2 => hh B env F2 σ H2 _ er _ (a.step s2) l w2 fun hi F3 H3 s3 w3 => ?_⟩
    have s := s2.trans s3
    exact .inl ⟨p, xs, rfl, SqL.of (s.hh _ _ h1), fun p2 hp => k p2 _ _ F3 _ (s.trans (Stp.fresh s.fh hp)) (s.hh.free hp) upd_same (s.fh.free hp) ((RepA.mono s.ff r).cut lo hi) w3⟩
  · exact w.elim
/-- xs[::-1] -/
def wRev (we : WE) : WE := fun env er q => we env er fun x => match x with
  | .lst l => q (.lst l.reverse)
  | _ => False
theorem sim_revL (h : SimE K E te we) : SimE K E (tRevL K te) (wRev we) := fun B env F σ H Q er q a l w k =>
  h B env F σ H _ er _ a l w fun x d F1 H1 s1 r1 w1 => by
    cases r1 with
    | lst h1 a1 => exact ⟨_, _, rfl, SqL.of (s1.fh _ _ h1), fun p hp => k _ _ _ _ (s1.trans (Stp.new s1.fh hp)) (.lst upd_same (a1.rev.mono (same_new (s1.fh.free hp)))) w1⟩
    | _ => exact w1.elim

/-! ### built-ins -/
abbrev rLenD (K : PySem.W.Frag) : List V → Hp → VK → Prop := fun xs H Q => ∃ x n, xs = [x] ∧ LenV K x H n ∧ Q (.int n) H
def dLen : List D → (D → Prop) → Prop
  | [.lst l], q => q (.int (l.length : Nat))
  | [.tup l], q => q (.int (l.length : Nat))
  | [.scr l], q => q (.int (l.length : Nat))
  | [.str x], q => x.length ≤ sizeLine ∧ q (.int (x.length : Nat))
  | _, _ => False
theorem sim_len : SimC K (rLenD K) dLen := fun F H xs ds Q q s r w k => by
  cases r with
  | nil => exact w.elim
  | cons r1 r2 =>
    cases r2 with
    | cons _ _ => cases r1 <;> exact w.elim
    | nil =>
      cases r1 with
      | lst h1 a1 => exact ⟨_, _, rfl, .inl ⟨_, SqL.of (s _ _ h1), a1.len.symm⟩, k.here s (.int _) w⟩
      | tup h1 a1 => exact ⟨_, _, rfl, .inr ⟨_, same_t s h1, a1.len.symm⟩, k.here s (.int _) w⟩
      | scr h1 => exact ⟨_, _, rfl, .inl ⟨_, s.seq h1, by rw [List.length_map]⟩, k.here s (.int _) w⟩
      | str x => exact ⟨_, _, rfl, ⟨w.1, rfl⟩, k.here s (.int _) w.2⟩
      | _ => exact w.elim
def lLen : List D → (D → Prop) → Prop := fun l q => q (.int (l.length : Nat))
theorem sim_lenL : SimCL K (rLenD K) lLen := fun F H a xs l Q q s h r w k => ⟨_, _, rfl, .inl ⟨xs, h, r.len.symm⟩, k.here s (.int _) w⟩
def bools : List D → Option (List Bool)
  | [] => some []
  | .bl b :: r => (bools r).map (b :: ·)
  | _ => none
theorem bools_rep {F : Hp} : ∀ {xs : List V} {l : List D} {bs : List Bool}, RepA K F xs l → bools l = some bs → xs = bs.map V.bl
  | _, [], _, .nil, e => by
    cases e
    rfl
  | _, d :: l, bs, .cons h r, e => by
    cases h with
    | bl b =>
      unfold bools at e
      cases h2 : bools l with
      | none =>
        rw [h2] at e
        cases e
      | some cs =>
        rw [h2] at e
        cases e
        rw [bools_rep r h2]
        rfl
    | _ => cases e
def lAll : List D → (D → Prop) → Prop := fun l q => match bools l with
  | some bs => q (.bl (bs.all id))
  | none => False
theorem sim_allL : SimCL K (rAll K) lAll := fun F H a xs l Q q s h r w k => by
  unfold lAll at w
  split at w
  · rename_i bs e
    rw [bools_rep r e] at h
    exact ⟨a, bs, rfl, h, k.here s (.bl _) w⟩
  · exact w.elim
def lAny : List D → (D → Prop) → Prop := fun l q => match bools l with
  | some bs => q (.bl (bs.any id))
  | none => False
theorem sim_anyL : SimCL K (rAny K) lAny := fun F H a xs l Q q s h r w k => by
  unfold lAny at w
  split at w
  · rename_i bs e
    rw [bools_rep r e] at h
    exact ⟨a, bs, rfl, h, k.here s (.bl _) w⟩
  · exact w.elim
/-- tuple(xs) -/
abbrev rTupD (K : PySem.W.Frag) : List V → Hp → VK → Prop := fun xs H Q => ∃ p ys, xs = [.ref p] ∧ ((SqL K H p ys ∧ ∀ l, H l = none → Q (.ref l) (upd H l (.tup ys))) ∨ (SqT K H p ys ∧ Q (.ref p) H))
def lTup : List D → (D → Prop) → Prop := fun l q => q (.tup l)
theorem sim_tupL : SimCL K (rTupD K) lTup := fun F H a xs l Q q s h r w k => ⟨a, xs, rfl, .inl ⟨h, fun p hp => k _ _ _ _ (Stp.new s hp) (.tup (.inl (.inl upd_same)) (r.mono (same_new (s.free hp)))) w⟩⟩
abbrev rIntD : List V → Hp → VK → Prop := fun xs H Q => (∃ i, xs = [.int i] ∧ Q (.int i) H) ∨ ∃ k, xs = [.bl k] ∧ Q (.int (if k then 1 else 0)) H
def dInt : List D → (D → Prop) → Prop
  | [.int i], q => q (.int i)
  | _, _ => False
theorem sim_toInt : SimC K rIntD dInt := fun F H xs ds Q q s r w k => by
  unfold dInt at w
  split at w
  · cases r with
    | cons r1 r2 =>
      cases r1
      cases r2
      exact .inl ⟨_, rfl, k.here s (.int _) w⟩
  · exact w.elim
abbrev rAbsD : List V → Hp → VK → Prop := fun xs H Q => ∃ i, xs = [.int i] ∧ Q (.int (if i < 0 then -i else i)) H
def dAbs : List D → (D → Prop) → Prop
  | [.int i], q => q (.int (if i < 0 then -i else i))
  | _, _ => False
theorem sim_abs : SimC K rAbsD dAbs := fun F H xs ds Q q s r w k => by
  unfold dAbs at w
  split at w
  · cases r with
    | cons r1 r2 =>
      cases r1
      cases r2
      exact ⟨_, rfl, k.here s (.int _) w⟩
  · exact w.elim
abbrev rMax2D : List V → Hp → VK → Prop := fun xs H Q => ∃ i j, xs = [.int i, .int j] ∧ Q (.int (if j > i then j else i)) H
def dMax2 : List D → (D → Prop) → Prop
  | [.int i, .int j], q => q (.int (if j > i then j else i))
  | _, _ => False
theorem sim_max2 : SimC K rMax2D dMax2 := fun F H xs ds Q q s r w k => by
  unfold dMax2 at w
  split at w
  · cases r with
    | cons r1 r2 =>
      cases r1
      cases r2 with
      | cons r2 r3 =>
        cases r2
        cases r3
        exact ⟨_, _, rfl, k.here s (.int _) w⟩
  · exact w.elim
abbrev rMin2D : List V → Hp → VK → Prop := fun xs H Q => ∃ i j, xs = [.int i, .int j] ∧ Q (.int (if j < i then j else i)) H
def dMin2 : List D → (D → Prop) → Prop
  | [.int i, .int j], q => q (.int (if j < i then j else i))
  | _, _ => False
theorem sim_min2 : SimC K rMin2D dMin2 := fun F H xs ds Q q s r w k => by
  unfold dMin2 at w
  split at w
  · cases r with
    | cons r1 r2 =>
      cases r1
      cases r2 with
      | cons r2 r3 =>
        cases r2
        cases r3
        exact ⟨_, _, rfl, k.here s (.int _) w⟩
  · exact w.elim

/-! ### isinstance -/
structure OwnC (K : PySem.W.Frag) (C : Addr) : Prop where
  cl : Cls K C
  ha : PySem.W.findIn K (.ref C) "__class__" = some (some (.builtin "object.__class__"))
  hn : PySem.W.specialIn K (.builtin "object.__class__") "__get__" = some (some (.builtin "getset_descriptor.__get__"))
  htk : PySem.W.takesIn K (.builtin "object.__class__") = some true
  hm : PySem.W.mroIn K C (.type "object") = some true
def tyD : D → Value
  | .non => .type "NoneType"
  | .bl _ => .type "bool"
  | .int _ => .type "int"
  | .str _ => .type "str"
  | .tup _ => .type "tuple"
  | .lst _ => .type "list"
  | .scr _ => .none
  | .ins C _ => .ref C
  | _ => .none
def OkTy (K : PySem.W.Frag) : D → Prop
  | .ins C _ => OwnC K C
  | .ty _ => False
  | .obj _ => False
  | .bag _ => False
  | .scr _ => False
  | _ => True
theorem tyx_of {F H : Hp} {x : V} {d : D} (s : Same F H) (r : Rep K F x d) (ok : OkTy K d) : TyX K H x (tyD d) := by
  cases r with
  | non => exact .base .non
  | bl b => exact .base (.bl b)
  | int i => exact .base (.int i)
  | str z => exact .base (.str z)
  | tup h _ =>
    rcases same_t s h with (h | ⟨o, h⟩) | ⟨o, its, n, h, hc, _⟩
    · exact .base (.tup h)
    · exact .fTuple h
    · exact .kTuple h hc
  | lst h _ => exact .base (.lst (s _ _ h))
  | ins h _ =>
    have ok : OwnC K _ := ok
    exact .base (.ins (s _ _ h) ok.cl ok.ha ok.hn ok.htk ok.hm)
  | _ => exact ok.elim
def dIsi (K : PySem.W.Frag) : List D → (D → Prop) → Prop
  | [x, .ty T], q => OkTy K x ∧ ∃ b, PySem.W.kitOne K (tyD x) (.type T) = some b ∧ q (.bl b)
  | [x, .obj C], q => OkTy K x ∧ ∃ b, PySem.W.kitOne K (tyD x) (.ref C) = some b ∧ q (.bl b)
  | _, _ => False
theorem sim_isi : SimC K (rIsi K) (dIsi K) := fun F H xs ds Q q s r w k => by
  unfold dIsi at w
  split at w
  · cases r with
    | cons r1 r2 =>
      cases r2 with
      | cons r2 r3 =>
        cases r2
        cases r3
        obtain ⟨ok, b, e, w⟩ := w
        exact ⟨_, _, _, _, b, rfl, .ty _, tyx_of s r1 ok, e, k.here s (.bl b) w⟩
  · cases r with
    | cons r1 r2 =>
      cases r2 with
      | cons r2 r3 =>
        cases r2
        cases r3
        obtain ⟨ok, b, e, w⟩ := w
        exact ⟨_, _, _, _, b, rfl, .own _, tyx_of s r1 ok, e, k.here s (.bl b) w⟩
  · exact w.elim
end

/-! ### a def keeps its promise -/
open PySem.Spec PyProof.Rows
def envOf (n : Nat) (ds : List D) : EV := ds.map .d ++ List.replicate (n - ds.length) .un
theorem start_at {K : PySem.W.Frag} {N : List Str} {F H : Hp} {vs : List V} {ds : List D} (s : Same F H) (r : RepA K F vs ds) (hl : ds.length ≤ N.length) : At K ⟨F, H⟩ (envOf N.length ds) F (L2.start N vs) H := by
  have hlen := r.len
  refine ⟨?_, Stp.refl s, fun i sv e => ?_, fun i j t u b e1 e2 m1 _ _ _ => ?_⟩
  · unfold L2.start envOf
    rw [List.length_append, List.length_append, List.length_map, List.length_map, List.length_replicate, List.length_replicate, hlen]
  · unfold envOf at e
    by_cases hi : i < ds.length
    · rw [List.getElem?_append_left (by rw [List.length_map]; exact hi), List.getElem?_map] at e
      cases e2 : ds[i]? with
      | none =>
        rw [e2] at e
        cases e
      | some d =>
        rw [e2] at e
        cases e
        obtain ⟨x, hx, rx⟩ := r.getD e2
        refine ⟨x, ?_, rx⟩
        unfold L2.start
        rw [List.getElem?_append_left (by rw [List.length_map, hlen]; exact hi), List.getElem?_map, hx]
        rfl
    · rw [List.getElem?_append_right (by rw [List.length_map]; omega)] at e
      have z := List.mem_replicate.mp (List.mem_of_getElem? e)
      rw [z.2]
      trivial
  · exfalso
    unfold envOf at e1
    have z := List.mem_of_getElem? e1
    rcases List.mem_append.mp z with z | z
    · obtain ⟨d, _, rfl⟩ := List.mem_map.mp z
      exact m1
    · rw [(List.mem_replicate.mp z).2] at m1
      exact m1
theorem body_of {K : PySem.W.Frag} {N : List Str} {n : Nat} {S : FS} {t : TS} {w : WS} {vs : List V} {H : Hp} {Q : VK} {E : XK} (ht : SimS K E t w) (hn : n ≤ N.length)
    (hw : ∀ ds er q, ds.length = n → S ds er q → w { nx := fun _ => q .non, rt := q, er := er } (envOf N.length ds)) (h : spOf K n S vs H Q E) : t { nx := fun _ H' => Q .non H', rt := Q } (L2.start N vs) H := by
  obtain ⟨F, ds, er, q, hl, s, r, hS, kv, ke⟩ := h
  exact ht ⟨F, H⟩ _ _ ⟨fun env F' σ H' a z => kv _ _ F' H' a.st .non z, fun x d F' H' st r z => kv x d F' H' st r z, fun _ _ _ _ _ z => False.elim z, fun _ _ _ _ _ z => False.elim z, ke⟩ _ F _ H (start_at s r (by omega)) (hw ds er q hl hS)
section
variable {P : Program} {w : World} {K : PySem.W.Frag} {mg : Str → Option Value} {base : Heap}
theorem ok_def {x qual : Str} {st : Stmt} {f : Addr} {fd : FuncData} {N ps : List Str} {k : Nat} {S : FS} (F : Fun K x qual st f fd) (sc : FnScope N ps (defScope st)) (hn : ps.length ≤ N.length)
    (hb : ∀ (cdv : Value) (A : Around) (outer : List Env) (s : Shared) (H : Hp) (E : XK), Room k (A.deeper (envOfC qual (defScope st) s.heap.objs.size f cdv)) →
      ∃ t ws, PSs (cxOf (L2.CX P w) P w K mg base N qual (defScope st) f cdv A outer s H E) (defBody st) t ∧ SimS K E t ws ∧
        ∀ ds er q, ds.length = ps.length → S ds er q → ws { nx := fun _ => q .non, rt := q, er := er } (envOf N.length ds)) :
    FnOk P w K mg base (L2.CX P w) (k + 1) f fd ps (spOf K ps.length S) := by
  refine F.okX sc (fun vs H Q E h => spOf_len h) (fun cdv A outer s H vs Q E hr h => ?_)
  obtain ⟨t, ws, h1, h2, h3⟩ := hb cdv A outer s H E hr
  exact ⟨t, h1, body_of h2 hn h3 h⟩
theorem ok_defD {x qual : Str} {st : Stmt} {dvs : List V} {kws : List (Str × V)} {f : Addr} {fd : FuncData} {N ps : List Str} {k : Nat} {S : FS} (F : FunD K x qual (defArgs st) (defBody st) (defScope st) dvs kws f fd) (sc : FnScope N ps (defScope st)) (hn : ps.length ≤ N.length)
    (hb : ∀ (cdv : Value) (A : Around) (outer : List Env) (s : Shared) (H : Hp) (E : XK), Room k (A.deeper (envOfC qual (defScope st) s.heap.objs.size f cdv)) →
      ∃ t ws, PSs (cxOf (L2.CX P w) P w K mg base N qual (defScope st) f cdv A outer s H E) (defBody st) t ∧ SimS K E t ws ∧
        ∀ ds er q, ds.length = ps.length → S ds er q → ws { nx := fun _ => q .non, rt := q, er := er } (envOf N.length ds)) :
    FnOk P w K mg base (L2.CX P w) (k + 1) f fd ps (spOf K ps.length S) := by
  refine F.ok sc (fun vs H Q E h => spOf_len h) (fun cdv A outer s H vs Q E hr h => ?_)
  obtain ⟨t, ws, h1, h2, h3⟩ := hb cdv A outer s H E hr
  exact ⟨t, h1, body_of h2 hn h3 h⟩
end
end DL
/-! DLX: rules of my own over HandS: t[::-1] of a tuple, tuple * int, methods called with keywords, == and != by an own __eq__. -/
namespace HT
open PySem PySem.Spec PyProof.Rows
section
variable {prog : Program} {w : World} {A : Around} {E : Value → Shared → Prop} {s : Shared}
theorem rev_places (n : Nat) : Builtin.Slice.slicePlaces ((n : Int) - 1) (-1) (-1) = n := by
  unfold Builtin.Slice.slicePlaces
  rw [if_neg (by decide)]
  by_cases h : n = 0
  · subst h
    rfl
  · rw [if_pos (by omega)]
    have e : (((n : Int) - 1 - (-1) - 1) / (- (-1)) + 1) = (n : Int) := by
      rw [show (- (-1) : Int) = 1 by rfl, Int.ediv_one]
      omega
    rw [e]
    omega
theorem filterMap_same {α β : Type} {f g : α → Option β} : ∀ {l : List α}, (∀ m ∈ l, f m = g m) → l.filterMap f = l.filterMap g
  | [], _ => rfl
  | a :: l, h => by
    rw [List.filterMap_cons, List.filterMap_cons, h a List.mem_cons_self, filterMap_same fun m hm => h m (List.mem_cons_of_mem _ hm)]
theorem rev_pick (xs : Array Value) : ((List.range xs.size).filterMap fun (m : Nat) => xs[(((xs.size : Int) - 1) + (m : Int) * (-1)).toNat]?).toArray = xs.toList.reverse.toArray := by
  congr 1
  apply List.ext_getElem?
  intro i
  have e : ∀ (l : List Nat) , (∀ m ∈ l, m < xs.size) → l.filterMap (fun (m : Nat) => xs[(((xs.size : Int) - 1) + (m : Int) * (-1)).toNat]?) = l.filterMap (fun m => xs.toList.reverse[m]?) := by
    intro l hl
    apply filterMap_same
    intro m hm
    have := hl m hm
    have e1 : (((xs.size : Int) - 1) + (m : Int) * (-1)).toNat = xs.size - 1 - m := by omega
    rw [e1, List.getElem?_reverse (by rw [Array.length_toList]; exact this), Array.length_toList, Array.getElem?_toList]
  rw [e _ (fun m hm => List.mem_range.mp hm)]
  have e2 : ∀ (l : List Value), (List.range l.length).filterMap (fun m => l[m]?) = l := by
    intro l
    have := PySem.W.krv_all l.toArray
    simpa using this
  have e3 := e2 xs.toList.reverse
  rw [List.length_reverse, Array.length_toList] at e3
  rw [e3]
theorem getItem_tuple_rev {t sl : Addr} {items : Array Value} {vs : Value} {Q : Value → Shared → Prop} (ht : IsTup s.heap t items) (hs : s.heap.IsSliceOf sl .none .none vs) (pv : IsPart vs (some (-1)))
    (h : Q (.ref s.heap.objs.size) { s with heap := s.heap.push { cls := .type "tuple", data := .seq items.toList.reverse.toArray } })
    (hsz : items.size ≤ sizeLine) : wpAny (model prog w) A (getItem (.ref t) (.ref sl)) Q E s := by
  have htake : sizeOk (.seq items.toList.reverse.toArray) := by
    show items.toList.reverse.toArray.size ≤ sizeLine
    rw [List.size_toArray, List.length_reverse, Array.length_toList]
    exact hsz
  obtain ⟨os, hos, hcs, hds⟩ := id hs
  have hTs : s.TypeIs (.ref sl) "slice" := ⟨os, hos, hcs⟩
  unfold getItem
  try with_reducible refine wpAny_holding ?_
  first | refine wpAny_bind (wpAny_pure ?_) | skip
  refine wpAny_bind (wpAny_sequenceKey ht.typeIs (by decide) ?_)
  refine wpAny_bind (wpAny_callSpecial?_slot (name := Str.ofString "__getitem__") ht.typeIs PyProof.Rows.slot_tuple_getitem
    (wpAny_call_entry PyProof.Rows.slot_tuple_getitem ht.typeIs PyProof.Rows.entry_tuple_getitem ?_ (PyProof.Rows.args_tuple_getitem _ _)))
  show wpAny _ _ (Builtin.Tuple.tupleItemsOf (.ref t) >>= _) _ _ s
  refine wpAny_bind (PyProof.Rows.tupleItemsOf_ ht ?_)
  refine wpAny_bind (wpAny_typeOf hTs ?_)
  rw [if_pos (by decide)]
  have happ : ∀ {Q2 : Int × Int × Nat → Shared → Prop} {A2 : Around} {E2 : Value → Shared → Prop}, Q2 ((items.size : Int) - 1, -1, items.size) s → wpAny (model prog w) A2 (Builtin.Slice.sliceApplied (.ref sl) (pure ((items.size : Nat) : Int))) Q2 E2 s := by
    intro Q2 A2 E2 hq
    unfold Builtin.Slice.sliceApplied Builtin.Slice.sliceFields
    refine wpAny_bind (wpAny_bind (wpAny_field hos hds (x := .none) rfl (wpAny_bind (wpAny_field hos hds (x := .none) rfl (wpAny_bind (wpAny_field hos hds (x := vs) rfl (wpAny_pure ?_)))))))
    refine wpAny_bind (slicePart_ pv ?_)
    show wpAny _ _ (if ((-1 : Int) == 0) = true then _ else _) _ _ s
    rw [if_neg (by decide)]
    refine wpAny_bind (slicePart_ .none (wpAny_bind (slicePart_ .none (wpAny_bind (wpAny_pure ?_)))))
    show wpAny _ _ (match Builtin.Slice.sliceAdjust none none (-1) ((items.size : Nat) : Int) with | (lo, hi) => pure (lo, (-1 : Int), Builtin.Slice.slicePlaces lo hi (-1))) _ _ s
    have ha : Builtin.Slice.sliceAdjust none none (-1) ((items.size : Nat) : Int) = ((items.size : Int) - 1, -1) := rfl
    rw [ha]
    show wpAny _ _ (pure ((items.size : Int) - 1, (-1 : Int), Builtin.Slice.slicePlaces ((items.size : Int) - 1) (-1) (-1))) _ _ s
    rw [rev_places]
    exact wpAny_pure hq
  refine wpAny_bind (happ ?_)
  show wpAny _ _ (if (((items.size : Int) - 1) == 0 && (-1 : Int) == 1 && items.size == items.size) = true then _ else _) _ _ s
  rw [if_neg (by intro q; rw [Bool.and_eq_true, Bool.and_eq_true] at q; exact absurd q.1.2 (by decide)), rev_pick]
  first
    | exact wpAny_bind (m := Builtin.Tuple.tupleExact _) (wpAny_newObj_type (wpAny_pure ⟨_, rfl, wpAny_pure h⟩) htake)
    | exact wpAny_bind (m := Builtin.Tuple.tupleExact _) (wpAny_newObj_type (wpAny_bind (wpAny_pure (wpAny_pure ⟨_, rfl, wpAny_pure h⟩))) htake)
    | exact wpAny_bind (wpAny_bind (m := Builtin.Tuple.tupleExact _) (wpAny_newObj_type (wpAny_pure (wpAny_pure ⟨_, rfl, wpAny_pure h⟩)) htake))
    | exact wpAny_bind (wpAny_bind (m := Builtin.Tuple.tupleExact _) (wpAny_newObj_type (wpAny_pure ⟨_, rfl, wpAny_pure h⟩) htake))
end
end HT
namespace DL
open PySem L2
open PySem.Spec PyProof.Rows
/-! ### t[::-1] -/
def tRevT (K : PySem.W.Frag) (te : TE) : TE := fun σ H Q => te σ H fun x H1 => ∃ a xs, x = .ref a ∧ SqT K H1 a xs ∧ ∀ p, H1 p = none → Q (.ref p) (upd H1 p (.tup xs.reverse))
theorem pe_revT {X : Cx} {e : Expr} {te : TE} {k : Nat} {p1 p2 p3 pos : Pos} (he : PE X e te) : PE X (.Subscript e (.Slice none none (some (.UnaryOp .USub (.Constant (.int 1) k p1) p2)) p3) pos) (tRevT X.K te) := by
  refine ⟨fun pins s σ H Q I h => ?_⟩
  refine Subscript_ (thn (he.run pins s σ H _ I h) fun v s1 ⟨x, H1, I1, r1, q1⟩ => ?_)
  obtain ⟨a, xs, ex, hx, q⟩ := q1
  subst ex
  cases r1
  have hst : PO X (some (.UnaryOp .USub (.Constant (.int 1) k p1) p2)) (tPart (tUn (rU fun i => .int (-i)) (tC (.int 1)))) := po_some (pe_un un_neg pe_int)
  refine wpAny_Slice (thn (po_none.run pins s1 σ H1 (fun o H2 => o = none ∧ H2 = H1) I1 ⟨rfl, rfl⟩) fun vl s2 ⟨l, H2, I2, pl, el, e2⟩ => ?_)
  subst el e2
  refine thn (po_none.run pins s2 σ H2 (fun o H3 => o = none ∧ H3 = H2) I2 ⟨rfl, rfl⟩) fun vu s3 ⟨u, H3, I3, pu, eu, e3⟩ => ?_
  subst eu e3
  refine thn (hst.run pins s3 σ H3 (fun o H4 => o = some (-1) ∧ H4 = H3) I3 ⟨1, rfl, -1, rfl, rfl, rfl⟩) fun vs s4 ⟨o, H4, I4, ps, eo, e4⟩ => ?_
  subst eo e4
  cases pl
  cases pu
  have I5 : Inv X pins σ H4 { s4 with heap := s4.heap.push { cls := .type "slice", data := .fields #[.none, .none, vs] } } := I4.kept (t' := s4.toks) fun b ob q => Heap.get?_push_of_some _ q
  obtain ⟨its, r, ht, hz⟩ := I5.tuple hx
  have hlen := r.length
  show wpAny (model X.prog X.w) X.A (subscriptTail e (.Slice none none (some (.UnaryOp .USub (.Constant (.int 1) k p1) p2)) p3) (.ref a) (.ref s4.heap.objs.size)) (EP X pins σ Q) X.xe { s4 with heap := s4.heap.push { cls := .type "slice", data := .fields #[.none, .none, vs] } }
  refine tail_any (ops := [.ref a, .ref s4.heap.objs.size]) ht.typeIs (PyProof.Rows.slot_tuple_getitem.lookup) ?_ (by with_unfolding_all rfl)
  refine HT.getItem_tuple_rev ht (Heap.IsSliceOf.new _ .none .none vs) ps ?_ (by rw [List.size_toArray]; omega)
  refine ⟨.ref _, _, I5.laid (t' := s4.toks) (o := .tup xs.reverse) (fun b ob q => Heap.get?_push_of_some _ q) (Nat.le_refl _) ?_, rfl, q _ (I5.hok.fresh (Nat.le_refl _))⟩
  exact ⟨by rw [List.length_reverse]; exact hz, _, r.reverse, IsTup.new _ _⟩
def wRevT (we : WE) : WE := fun env er q => we env er fun x => match x with
  | .tup l => q (.tup l.reverse)
  | _ => False
theorem sim_revT {K : PySem.W.Frag} {E : XK} {te : TE} {we : WE} (h : SimE K E te we) : SimE K E (tRevT K te) (wRevT we) := fun B env F σ H Q er q a l w k =>
  h B env F σ H _ er _ a l w fun x d F1 H1 s1 r1 w1 => by
    cases r1 with
    | tup h1 a1 => exact ⟨_, _, rfl, same_t s1.fh h1, fun p hp => k _ _ _ _ (s1.trans (Stp.new s1.fh hp)) (.tup (.inl (.inl upd_same)) (a1.rev.mono (same_new (s1.fh.free hp)))) w1⟩
    | _ => exact w1.elim

/-! ### tuple * int, from 0 to 1000 -/
def rRepD (K : PySem.W.Frag) : R2 := fun x y H Q => ∃ l k xs, x = .ref l ∧ y = .int k ∧ SqT K H l xs ∧ xs ≠ [] ∧ 0 ≤ k ∧ k ≤ 1000 ∧ xs.length ≤ 1000 ∧
  (k = 1 → Q (.ref l) H) ∧ (k ≠ 1 → ∀ p, H p = none → Q (.ref p) (upd H p (.tup (List.replicate k.toNat xs).flatten)))
theorem tuple_mul1 (l : Addr) (items : Array Value) (n : Nat) (sl : Array (Option Value)) (u : Tok) :
    Meets (Builtin.«tuple.__mul__» ⟨[.ref l, .int 1 u], []⟩) (fun _ R s => ∃ dd, s.heap.get? l = some { cls := .type "tuple", dict := dd, data := .seq items n, slots := sl } ∧ R (.ok (.ret (Value.ref l))) s) :=
  .of_wp fun prog w A R s h => by
    obtain ⟨hp, g, d, tk, os⟩ := s
    obtain ⟨dd, hl, h⟩ := h
    have f1 := AutoSeq1.idx_int
    wp_walk using AutoSeq1.wpAny_loadPart' hl
    exact ⟨_, rfl, h⟩
theorem tuple_mul0 (l : Addr) (items : Array Value) (n : Nat) (dd : Option Addr) (sl : Array (Option Value)) (u : Tok) (c0 : items.isEmpty = false) :
    Meets (Builtin.«tuple.__mul__» ⟨[.ref l, .int 0 u], []⟩) (fun _ R s => s.heap.get? l = some { cls := .type "tuple", dict := dd, data := .seq items n, slots := sl } ∧ R (.ok (.ret (Value.ref s.heap.objs.size))) { s with heap := s.heap.push { cls := Value.type "tuple", data := Data.seq #[] }, toks := s.toks }) :=
  .of_wp fun prog w A R s h => by
    obtain ⟨hp, g, d, tk, os⟩ := s
    obtain ⟨hl, h⟩ := h
    have f1 := AutoSeq1.idx_int
    have c1 : (items.isEmpty || (0 : Int) == 1) = false := by
      rw [c0]
      rfl
    wp_walk using AutoSeq1.wpAny_loadPart' hl
    repeat (first
      | (refine wpAny_ite_false (decide_eq_false (by rw [c1]; exact Bool.false_ne_true)) ?_; wp_walk using AutoSeq1.wpAny_loadPart' hl))
    exact ⟨_, rfl, h⟩
section
variable {X : Cx}
theorem op_repD : OpR X (binaryOp .Mult) (rRepD X.K) := by
  intro pins s σ H x y v u Q I rx ry h
  obtain ⟨l, k, xs, rfl, rfl, hT, hne, h1, h2, hz, qa, qb⟩ := h
  by_cases k2 : 2 ≤ k
  · exact op_repT pins s σ H _ _ v u Q I rx ry ⟨l, k, xs, rfl, rfl, hT, hne, k2, h2, hz, qb (by omega)⟩
  · cases rx
    obtain ⟨t, rfl⟩ := ry
    obtain ⟨its, r, ⟨⟨cls, dd, data, sl⟩, ho, hc, n, hd⟩, hs⟩ := I.tuple hT
    simp only at hc hd
    subst hc hd
    have hle : its.length = xs.length := r.length.symm
    have hn : its ≠ [] := fun e => hne (by
      rw [e] at hle
      exact List.eq_nil_of_length_eq_zero hle.symm)
    have hi : its.toArray.isEmpty = false := by
      cases its with
      | nil => exact absurd rfl hn
      | cons a b => rfl
    refine wpAny_binaryOp_repeat_ref (T := "tuple") (U := "int") (by decide) ⟨_, ho, rfl⟩ (fun s' => typeIs_int s' k t) noFill_tuple_mul F.fills_int_mul F.slot_int_rmul repeat_tuple F.slot_int_index.lookup
      (call_meets F.slot_int_rmul (typeIs_int s k t) F.entry_int_rmul (F.args_int_rmul_2 _ _) (int_rmul_tuple k t l its.toArray n dd sl) ⟨ho, rfl, ⟨_, ho, rfl⟩, ?_⟩)
    by_cases k1 : k = 1
    · subst k1
      exact call_meets F.slot_tuple_mul ⟨_, ho, rfl⟩ F.entry_tuple_mul (F.args_tuple_mul_2 _ _) (tuple_mul1 l its.toArray n sl t) ⟨dd, ho, ⟨.ref l, H, I, rfl, qa rfl⟩⟩
    · have k0 : k = 0 := by omega
      subst k0
      refine call_meets F.slot_tuple_mul ⟨_, ho, rfl⟩ F.entry_tuple_mul (F.args_tuple_mul_2 _ _) (tuple_mul0 l its.toArray n dd sl t hi) ⟨ho, ?_⟩
      refine ⟨.ref s.heap.objs.size, _, I.laid (t' := s.toks) (o := .tup []) (fun b ob q => Heap.get?_push_of_some _ q) (Nat.le_refl _) ?_, rfl, qb (by decide) _ (I.hok.fresh (Nat.le_refl _))⟩
      exact ⟨Nat.zero_le _, [], .nil, IsTup.new _ _⟩
end
def rMulT (K : PySem.W.Frag) : R2 := fun x y H Q => rMulD x y H Q ∨ rRepD K x y H Q
theorem op_mulT {X : Cx} : OpR X (binaryOp .Mult) (rMulT X.K) := OpR.or op_mulD op_repD
def dMulT : D → D → (D → Prop) → Prop
  | .tup l, .int k, q => (l ≠ [] ∧ 0 ≤ k ∧ k ≤ 1000 ∧ l.length ≤ 1000) ∧ q (.tup (List.replicate k.toNat l).flatten)
  | x, y, q => dMul x y q
theorem sim_mulT {K : PySem.W.Frag} : Sim2 K (rMulT K) dMulT := fun F H x y d e Q q s r1 r2 w k => by
  cases r1 with
  | @tup a xs l h1 a1 =>
    cases r2 with
    | int j =>
      obtain ⟨⟨w1, w2, w3, w4⟩, w5⟩ := w
      refine .inr ⟨a, j, xs, rfl, rfl, same_t s h1, fun e => ?_, w2, w3, by rw [a1.len]; exact w4, fun e => ?_, fun _ p hp => k _ _ _ _ (Stp.new s hp) (.tup (.inl (.inl upd_same)) ((a1.rep _).mono (same_new (s.free hp)))) w5⟩
      · subst e
        cases a1
        exact w1 rfl
      · subst e
        have w6 : q (.tup (List.replicate 1 l).flatten) := w5
        rw [show List.replicate 1 l = [l] from rfl, List.flatten_cons, List.flatten_nil, List.append_nil] at w6
        exact k.here s (.tup h1 a1) w6
    | _ => exact w.elim
  | int i => exact .inl (sim_mul F H _ y _ e Q q s (.int i) r2 (by cases e <;> exact w) k)
  | lst h1 a1 => exact .inl (sim_mul F H _ y _ e Q q s (.lst h1 a1) r2 (by cases e <;> exact w) k)
  | _ => cases e <;> exact w.elim

/-! ### o.m(e, .., k = v) -/
def tMethN (C : Addr) (m : Str) (n mm : Nat) (sp : Sp) (gV : List V → List V → List V) (E : XK) (ta : TE) (t tk : TA) : TE := fun σ H Q => ta σ H fun x H1 => ∃ a dx fs, x = .ref a ∧ H1 a = some (.ins C dx fs) ∧ fs.lookup m = none ∧
  t σ H1 fun vs H2 => tk σ H2 fun zs H3 => vs.length = n ∧ zs.length = mm ∧ sp (gV (x :: vs) zs) H3 Q E
section
variable {X : Cx} {CX : CXT} {k n : Nat} {f C : Addr} {fd : FuncData} {ps ks : List Str} {sp : Sp} {E : XK} {m : Str} {p pos apos : Pos} {e o : Expr} {es : List Expr} {kws : List Keyword} {ta : TE} {t tk : TA} {g : List Value → List Value → List Value} {gV : List V → List V → List V}
/-- only keywords -/
theorem pe_methK0 {pl : Sem Bool} (he : PE X o ta) (c : Cls X.K C) (hm : Meth X.K C m f) (F : FnOk X.prog X.w X.K X.mg X.base CX k f fd ps sp) (hr : Room k X.A) (hb : KBn X.K fd ps (n + 1) ks g gV) (hx : Passes CX X E)
    (hkw : PK X kws tk) (hn : n = 0) (hall : (backToKw pos (keywordEach kws X.env)).all (·.1.isSome) = true := by rfl) (hks : (backToKw pos (keywordEach kws X.env)).filterMap (·.1) = ks := by rfl)
    (hpl : ((backTo pos (starEach [] X.env)).any (·.1) || (backToKw pos (keywordEach kws X.env)).any (·.1.isNone)) = false := by rfl)
    (ht : eval (.Call (.Attribute o m apos) [] kws pos) X.env = (do
      let ov ← eval o X.env
      standAt apos.atName
      let (f, first) ← holding [ov] (getMethod ov m pl)
      callWith pos f first (backTo pos (starEach [] X.env)) (backToKw pos (keywordEach kws X.env))) := by rfl) :
    PE X (.Call (.Attribute o m apos) [] kws pos) (tMethN C m n ks.length sp gV E ta tNil tk) := by
  refine ⟨fun pins s σ H Q I h => ?_⟩
  subst hn
  refine PySem.W.methodCall_KW (pl := pl) (thn (he.run pins s σ H _ I h) fun u s1 ⟨x, H1, I1, rx, a, dx, fs, ex, ea, l, q⟩ => ?_) ht
  subst ex
  obtain rfl : u = Value.ref a := rx
  refine getmeth_ok I1 ea c hm l ?_
  refine PySem.W.callWith_KW0 (first := [.ref a]) (h₀ := X.base) I.ok.mod.kin hm.kp hall (thn (hkw.run pos pins s1 σ H1 _ I1 q) fun ws s2 ⟨zs, H2, I2, rz, l1, l2, q2⟩ => ⟨I2.kIn, ?_⟩) hpl
  rw [hks]
  exact run_fnN (us := [.ref a]) (vs := [.ref a]) F hr hb hx I2 (.cons rfl .nil) rz rfl l2 q2
end
def wMethN (C : Addr) (m : Str) (mm p : Nat) (S : FS) (g : List D → List D → List D) (wa : WE) (wk : WA) : WE := fun env er q => wa env er fun o => match o with
  | .ins C' fs => C' = C ∧ fs.lookup m = none ∧ wk env er fun zs => zs.length = mm ∧ (g [o] zs).length = p ∧ S (g [o] zs) er q
  | _ => False
theorem sim_methN {K : PySem.W.Frag} {E : XK} {C : Addr} {m : Str} {mm p : Nat} {S : FS} {gV : List V → List V → List V} {g : List D → List D → List D} {ta : TE} {wa : WE} {tk : TA} {wk : WA} (hg : ∀ F vs ds us zs, RepA K F vs ds → RepA K F us zs → RepA K F (gV vs us) (g ds zs)) (ho : SimE K E ta wa) (hk : SimA K E tk wk) :
    SimE K E (tMethN C m 0 mm (spOf K p S) gV E ta tNil tk) (wMethN C m mm p S g wa wk) := fun B env F σ H Q er q a l w k =>
  ho B env F σ H _ er _ a l w fun x d F1 H1 s1 r1 w1 => by
    cases r1 with
    | @ins b C' dx xs fs h1 h2 =>
      obtain ⟨e1, e2, w2⟩ := w1
      subst e1
      refine ⟨b, dx, xs, rfl, s1.fh _ _ h1, h2.none e2, hk B env F1 σ H1 _ er _ (a.step s1) l w2 fun ys zs F2 H2 s2 r2 w3 => ?_⟩
      exact ⟨rfl, by rw [r2.len]; exact w3.1, F2, _, er, q, w3.2.1, s2.fh, hg F2 _ _ _ _ (.one ((Rep.ins h1 h2).mono s2.ff)) r2, w3.2.2, k.step (s1.trans s2), l.at (a.step (s1.trans s2))⟩
    | _ => exact w1.elim

/-! ### == and != by an own __eq__ -/
section
variable {X : Cx} {pins : List (Addr × Obj)} {σ : L2.St} {H : Hp} {s : Shared}
theorem looks_ty {x : V} {u t : Value} (I : Inv X pins σ H s) (rx : RelV x u) (ty : TyX X.K H x t) : PySem.W.Looks (model X.prog X.w) s.heap (typeOf u) t := by
  obtain ⟨P, Z, p, _⟩ := kit_of I rx ty
  exact Z.ty _ _ I.kIn p
theorem ins_inst {a C dx : Addr} {fs : List (Str × V)} (I : Inv X pins σ H s) (e : H a = some (.ins C dx fs)) : ∃ od, PySem.W.InstAt s.heap a (PySem.W.instObj C dx) C (some od) := by
  obtain ⟨mA, O, _⟩ := ins_get I.hok e
  obtain ⟨od, J, _⟩ := O.look
  exact ⟨od, J⟩
end
section
variable {X : Cx} {CX : CXT} {k : Nat} {g C : Addr} {fd : FuncData} {sp : Sp} {E : XK}
theorem cmpback {P : Value → Shared → Prop} {z : V} {v : Value} {s' : Shared} (r : RelV z v) (h : P v s') : PySem.W.CmpBack P v s' := by
  cases z with
  | int i =>
    obtain ⟨t, e⟩ := (show ∃ t, v = Value.int i t from r)
    cases e
    exact h
  | str x =>
    obtain ⟨t, e⟩ := (show ∃ t, v = Value.str x t from r)
    cases e
    exact h
  | byt x =>
    obtain ⟨t, e⟩ := (show ∃ t, v = Value.bytes x t from r)
    cases e
    exact h
  | flt x =>
    obtain ⟨t, e⟩ := (show ∃ t, v = Value.float x t from r)
    cases e
    exact h
  | _ =>
    cases r
    exact h
/-- x == y, x an instance of the class at C, whose __eq__ stands at g; y not of a class below -/
def rOwnEq (K : PySem.W.Frag) (C : Addr) (sp : Sp) (E : XK) : R2 := fun x y H Q => ∃ a dx fs t, x = .ref a ∧ H a = some (.ins C dx fs) ∧ TyX K H y t ∧ PySem.W.notFirst K C t = true ∧ sp [x, y] H Q E
theorem op_ownEq (hs : PySem.W.findIn X.K (.ref C) "__eq__" = some (some (.ref g))) (hf : PySem.W.isFn X.K (.ref g) = true) (F : FnOk X.prog X.w X.K X.mg X.base CX k g fd ["self", "other"] sp) (hb : Binds X.K fd ["self", "other"] []) (hr : Room k X.A) (hx : Passes CX X E) :
    OpR X (compareOp .Eq) (rOwnEq X.K C sp E) := by
  intro pins s σ H x y v u Q I rx ry h
  obtain ⟨a, dx, fs, t, rfl, ha, ty, hn, q⟩ := h
  cases (show v = Value.ref a from rx)
  obtain ⟨od, J⟩ := ins_inst I ha
  obtain ⟨m, hF⟩ := I.fr
  show wpAny _ _ (richCompare .Eq (.ref a) u) _ _ _
  refine PySem.W.cmp_K (op := .Eq) (tb := t) hr.units0 hF I.ok.mod.kin J (looks_ty I ry ty) hn hs hf ?_
  refine wpAny_mono (run_fn (us := [.ref a, u]) (vs := [.ref a, y]) (dvs := []) (ds := []) F hr hb .nil hx I (.cons rfl (.cons ry .nil)) q) (fun w s' z => ?_) fun _ _ x => x
  obtain ⟨z', H', I', rz, qz⟩ := z
  exact cmpback rz ⟨z', H', I', rz, qz⟩
theorem slot_ne : Slot "object" "__ne__" "object.__ne__" := Slot.of (T := "object") (name := "__ne__") (owner := "object") (n := "__ne__") (by rw [typeLookup_type, builtinLookup_eq_fast]; kernel_rfl) (by decide +kernel) (by decide +kernel) (by decide +kernel)
    (.inl (by decide +kernel)) (by rw [isSubtype_type]; kernel_rfl)
theorem run_fnA {pins : List (Addr × Obj)} {σ : L2.St} {H : Hp} {s : Shared} {Q : VK} {ps : List Str} {us : List Value} {vs : List V} {A : Around} (F : FnOk X.prog X.w X.K X.mg X.base CX k g fd ps sp) (hr : Room k A) (hA : A.frames = X.A.frames) (hb : Binds X.K fd ps []) (hx : Passes CX X E)
    (I : Inv X pins σ H s) (r : Vals vs us) (h : sp vs H Q E) : wpAny (model X.prog X.w) A (call (.ref g) us) (EP X pins σ Q) X.xe s := by
  have hl : (us ++ []).length = ps.length := by
    rw [List.append_nil, ← r.length]
    exact F.len _ _ _ _ h
  have e0 : Env0 X.prog X.w X.K X.mg X.base A X.stack s H := by
    have e := I.env0
    exact ⟨by rw [hA]; exact e.frames, e.mod, e.bs, e.bsz, e.funs, e.frf, e.hok, e.bare⟩
  have hb' := hb s us I.kIn hl
  rw [List.append_nil] at hb'
  refine wpAny_call (codeAny_mono (F.run A X.stack s H ⟨us, []⟩ us vs Q E hr e0 hb' r h) fun r s' hq => ?_)
  cases r with
  | error e => exact hx pins σ H s e s' I hq
  | ok fl =>
    cases fl with
    | ret u => exact I.after hq
    | next => exact False.elim hq
    | brk => exact False.elim hq
    | cont => exact False.elim hq
/-- x != y by x's __eq__, turned -/
def rOwnNe (K : PySem.W.Frag) (C : Addr) (sp : Sp) (E : XK) : R2 := fun x y H Q => ∃ a dx fs t, x = .ref a ∧ H a = some (.ins C dx fs) ∧ TyX K H y t ∧ PySem.W.notFirst K C t = true ∧ sp [x, y] H (fun z H' => ∃ b, z = .bl b ∧ Q (.bl (!b)) H') E
theorem op_ownNe (c : Cls X.K C) (hs : PySem.W.findIn X.K (.ref C) "__eq__" = some (some (.ref g))) (hne : PySem.W.findIn X.K (.ref C) "__ne__" = some (some (.builtin "object.__ne__"))) (hf : PySem.W.isFn X.K (.ref g) = true)
    (F : FnOk X.prog X.w X.K X.mg X.base CX k g fd ["self", "other"] sp) (hb : Binds X.K fd ["self", "other"] []) (hr : Room (k + 1) X.A) (hx : Passes CX X E) :
    OpR X (compareOp .NotEq) (rOwnNe X.K C sp E) := by
  intro pins s σ H x y v u Q I rx ry h
  obtain ⟨a, dx, fs, t, rfl, ha, ty, hn, q⟩ := h
  cases (show v = Value.ref a from rx)
  obtain ⟨od, J⟩ := ins_inst I ha
  obtain ⟨cd, hc, ho⟩ := PySem.W.any_some c.po
  have ne : cd.mro.isEmpty = false := by cases q : cd.mro with | nil => rw [q] at ho; cases ho | cons _ _ => rfl
  have sub : PySem.W.Looks (model X.prog X.w) s.heap (isInstance (.ref a) (.type "object")) true := J.type.andThen (PySem.W.looks_mroIn I.kIn (by unfold PySem.W.mroIn; rw [hc, Option.bind_some, if_neg (by rw [ne]; decide), PySem.W.only_has ho]))
  show wpAny _ _ (richCompare .NotEq (.ref a) u) _ _ _
  have body : wpAny (model X.prog X.w) X.A (call (.builtin "object.__ne__") [.ref a, u]) (fun v s' => ∃ b, v = .bool b ∧ EP X pins σ Q (.bool b) s') X.xe s := by
    refine wpAny_call (codeAny_call_builtin slot_ne.plain _root_.PySem.F.cmpEntry_ne (@PySem.W.check_slot (model X.prog X.w) _ _ s "object.__ne__" "object" "__ne__" (.ref a) [u] [] _ _root_.PySem.F.cmpKind_ne _root_.PySem.F.cmpSplit_ne sub (_root_.PySem.F.cmpArgs_ne _ _) ?_))
    unfold Builtin.«object.__ne__»
    have hsl : slotArgs "__ne__" 1 { pos := [Value.ref a, u] } = pure (.ref a, [u]) := by first | rfl | (unfold slotArgs; rfl) | (unfold slotArgs; simp)
    rw [hsl]
    refine wpAny_bind (wpAny_pure ?_)
    refine wpAny_bind (wpAny_cRoomFor (by have := hr.un; show X.A.units + 1 < cLine; omega) ?_)
    refine wpAny_bind (PySem.W.ifBound_K I.kIn J hs hf ?_)
    refine wpAny_mono (run_fnA (us := [.ref a, u]) (vs := [.ref a, y]) (A := X.A.in1) F hr.in1 rfl hb hx I (.cons rfl (.cons ry .nil)) q) (fun v s' z => ?_) fun _ _ x => x
    obtain ⟨z', H', I', rz, b, eb, qz⟩ := z
    subst eb
    cases (show v = Value.bool b from rz)
    exact wpAny_bind (wpAny_truthy_bool (wpAny_pure ⟨!b, rfl, .bl (!b), H', I', rfl, qz⟩))
  have one : wpAny (model X.prog X.w) X.A (tryCompare (.ref a) (cmpInfo .NotEq).2.1 u) (fun r s' => ∃ v, r = some v ∧ EP X pins σ Q v s') X.xe s := by
    unfold tryCompare
    refine wpAny_bind ?_
    simp only [callSpecialIfBound?, bindSpecialIfBound?]
    refine wpAny_holding (wpAny_bind (wpAny_bind (wpAny_bind (J.type.here ((PySem.W.looks_findIn I.kIn hne).here ?_)))))
    refine wpAny_bind (wpAny_askSetting (wpAny_ite ?_))
    rw [slot_ne.bind]
    have fin : wpAny (model X.prog X.w) X.A (call (.builtin "object.__ne__") ([.ref a] ++ [u]) >>= fun v => pure (some v)) (fun r s' => ∃ b, r = some (.bool b) ∧ EP X pins σ Q (.bool b) s') X.xe s := wpAny_bind (wpAny_mono body (fun v s' h' => by
      obtain ⟨b, rfl, h'⟩ := h'
      exact wpAny_pure ⟨b, rfl, h'⟩) fun _ _ h' => h')
    have fin2 : wpAny (model X.prog X.w) X.A (call (.builtin "object.__ne__") ([.ref a] ++ [u]) >>= fun v => pure (some v)) (fun r s' => wpAny (model X.prog X.w) X.A (match r with | some .notImplemented | none => pure none | some v => pure (some v)) (fun r s' => ∃ v, r = some v ∧ EP X pins σ Q v s') X.xe s') X.xe s := wpAny_mono fin (fun r s' h' => by
      obtain ⟨b, rfl, h'⟩ := h'
      exact wpAny_pure ⟨_, rfl, h'⟩) fun _ _ h' => h'
    split
    · exact wpAny_bind (wpAny_pure (wpAny_pure (by exact fin2)))
    · exact wpAny_tryCatch (wpAny_bind (wpAny_pure (wpAny_pure (by exact fin2))))
  unfold richCompare
  simp only [oneThing_ref]
  refine wpAny_holding (wpAny_bind (wpAny_cRoomFor hr.units0 ?_))
  refine wpAny_bind (J.type.here (wpAny_bind ((looks_ty I ry ty).here ?_)))
  split
  · rename_i q
    have e : PySem.W.subIn X.K t (.ref C) = some false := by
      rcases Bool.or_eq_true_iff.mp hn with e | e
      · rw [beq_iff_eq.mp e] at q; simp at q
      · exact beq_iff_eq.mp e
    refine wpAny_bind ((PySem.W.looks_subIn I.kIn e).here ?_)
    simp only [Bool.false_eq_true, if_false]
    refine wpAny_bind (wpAny_mono one (fun r s' z => ?_) fun _ _ e => e)
    obtain ⟨v, rfl, hq⟩ := z
    exact wpAny_pure hq
  · refine wpAny_bind (wpAny_pure ?_)
    simp only [Bool.false_eq_true, if_false]
    refine wpAny_bind (wpAny_mono one (fun r s' z => ?_) fun _ _ e => e)
    obtain ⟨v, rfl, hq⟩ := z
    exact wpAny_pure hq
end
end DL
/-! DL4: targets, instances made, fields stored, own ==, keywords, bags. -/
namespace DL
open PySem L2
section
variable {K : PySem.W.Frag} {E : XK} {ta tb tc te : TE} {wa wb wc we : WE} {X : Cx}

/-! ### several targets -/
def gNs : List Nat → TGs
  | [] => gNil
  | i :: r => gCons (gName i) (gNs r)
def setAll : List Nat → List D → EV → (EV → Prop) → Prop
  | [], [], env, q => q env
  | i :: js, x :: l, env, q => setAll js l (env.set i (.d x)) q
  | _, _, _, _ => False
def gTupD (js : List Nat) : D → EV → (EV → Prop) → Prop := fun d env q => match d with
  | .tup l => setAll js l env q
  | _ => False
theorem setAll_ok : ∀ {js : List Nat} {l : List D} {B : Ent} {env : EV} {F : Hp} {σ : L2.St} {H : Hp} {xs : List V} {Q : L2.St → Hp → Prop} {q : EV → Prop}, At K B env F σ H → RepA K F xs l → setAll js l env q →
    (∀ env' σ', At K B env' F σ' H → σ'.length = σ.length → (∀ i, i ∉ js → σ'[i]? = σ[i]?) → q env' → Q σ' H) → gNs js xs σ H Q
  | [], [], _, _, _, _, _, _, _, _, a, .nil, w, k => ⟨rfl, k _ _ a rfl (fun _ _ => rfl) w⟩
  | i :: js, d :: l, _, _, _, _, _, _, _, _, a, .cons h r, w, k => ⟨_, _, rfl, setAll_ok (a.set h) r w fun env' σ' a' hl ho hq => k env' σ' a' (by rw [hl, List.length_set]) (fun n hn => by
      rw [ho n (fun z => hn (List.mem_cons_of_mem _ z)), off1 (fun z => hn (by simp at z; simp [z]))]) hq⟩
  | [], _ :: _, _, _, _, _, _, _, _, _, _, _, w, _ => w.elim
  | _ :: _, [], _, _, _, _, _, _, _, _, _, _, w, _ => w.elim
theorem setAll_len : ∀ {js : List Nat} {l : List D} {env : EV} {q : EV → Prop}, setAll js l env q → l.length = js.length
  | [], [], _, _, _ => rfl
  | _ :: _, _ :: _, _, _, w => congrArg Nat.succ (setAll_len w)
  | [], _ :: _, _, _, w => w.elim
  | _ :: _, [], _, _, w => w.elim
theorem simg_names {js : List Nat} {n : Nat} (hn : js.length = n := by rfl) : SimG K js (gTup K n (gNs js)) (gTupD js) := fun B env F σ H x d Q q a r w k => by
  unfold gTupD at w
  split at w
  · cases r with
    | tup h1 h2 => exact ⟨_, _, rfl, same_t a.fh h1, by rw [h2.len, setAll_len w, hn], setAll_ok a h2 w k⟩
  · exact w.elim
/-- any target -/
def sAsgG (g : D → EV → (EV → Prop) → Prop) (we : WE) : WS := fun n env => we env n.er fun d => g d env n.nx
theorem sims_asgG {js : List Nat} {tg : TG} {g : D → EV → (EV → Prop) → Prop} (h : SimE K E te we) (hg : SimG K js tg g) : SimS K E (tAsg te tg) (sAsgG g we) := fun B Dd n L env F σ H a w =>
  h B env F σ H _ n.er _ a L.er w fun x d F1 H1 s1 r1 w1 => hg B env F1 σ H1 x d _ _ (a.step s1) r1 w1 fun env' σ' a' _ _ q => L.nx _ _ _ _ a' q
/-- found, rest = [], ..: by a tuple -/
theorem sims_tupO {i j : Nat} {wo : WO} (ha : SimO K E ta wo) (hb : SimE K E tb wb) : SimS K E (tAsg (tTup (tCons ta (tCons tb tNil))) (gTup K 2 (gCons (gName i) (gCons (gName j) gNil)))) (sParO i j wo wb) := fun B Dd n L env F σ H a w =>
  ha B env F σ H _ n.er _ a L.er w fun p xs l F1 H1 s1 hp h1 hf r1 w1 => hb B env F1 σ H1 _ n.er _ (a.step s1) L.er w1 fun y e F2 H2 s2 r2 w2 =>
    ⟨by show 2 ≤ sizeLine; decide, fun T hT => ⟨T, _, rfl, .inl (.inl upd_same), rfl, _, _, rfl, _, _, rfl, rfl, by
      have s := (s1.trans s2).trans (Stp.fresh (o := .tup [.ref p, y]) s2.fh hT)
      have h2 := s2.hh _ _ h1
      exact L.nx _ F2 _ _ ((a.setNew s hp (by rw [upd_ne (ne_of_none h2 hT)]; exact h2) (s2.nw p hf (by rw [h1]; exact fun z => nomatch z)) (RepA.mono s2.ff r1)).set r2) w2⟩⟩
def sPar3 (i j l : Nat) (wa wb wc : WE) : WS := fun n env => wa env n.er fun x => wb env n.er fun y => wc env n.er fun z => n.nx (((env.set i (.d x)).set j (.d y)).set l (.d z))
theorem sims_par3 {i j l : Nat} (ha : SimE K E ta wa) (hb : SimE K E tb wb) (hc : SimE K E tc wc) : SimS K E (tPar3 i j l (tCons ta (tCons tb (tCons tc tNil)))) (sPar3 i j l wa wb wc) := fun B Dd n L env F σ H a w =>
  ha B env F σ H _ n.er _ a L.er w fun x d F1 H1 s1 r1 w1 => hb B env F1 σ H1 _ n.er _ (a.step s1) L.er w1 fun y e F2 H2 s2 r2 w2 => hc B env F2 σ H2 _ n.er _ (a.step (s1.trans s2)) L.er w2 fun z f F3 H3 s3 r3 w3 =>
    ⟨x, y, z, rfl, L.nx _ F3 _ H3 ((((a.step ((s1.trans s2).trans s3)).set (r1.mono (s2.trans s3).ff)).set (r2.mono s3.ff)).set r3) w3⟩
def sParO3 (i j l : Nat) (wo : WO) (wb wc : WE) : WS := fun n env => wo env n.er fun x => wb env n.er fun y => wc env n.er fun z => n.nx (((env.set i (.own x)).set j (.d y)).set l (.d z))
theorem sims_parO3 {i j l : Nat} {wo : WO} (ha : SimO K E ta wo) (hb : SimE K E tb wb) (hc : SimE K E tc wc) : SimS K E (tPar3 i j l (tCons ta (tCons tb (tCons tc tNil)))) (sParO3 i j l wo wb wc) := fun B Dd n L env F σ H a w =>
  ha B env F σ H _ n.er _ a L.er w fun p xs m F1 H1 s1 hp h1 hf r1 w1 => hb B env F1 σ H1 _ n.er _ (a.step s1) L.er w1 fun y e F2 H2 s2 r2 w2 => hc B env F2 σ H2 _ n.er _ (a.step (s1.trans s2)) L.er w2 fun z f F3 H3 s3 r3 w3 => by
    have f2 := s2.nw p hf (by rw [h1]; exact fun z => nomatch z)
    have h2 := s2.hh _ _ h1
    exact ⟨.ref p, y, z, rfl, L.nx _ F3 _ H3 (((a.setNew ((s1.trans s2).trans s3) hp (s3.hh _ _ h2) (s3.nw p f2 (by rw [h2]; exact fun z => nomatch z)) (RepA.mono (s2.trans s3).ff r1)).set (r2.mono s3.ff)).set r3) w3⟩

/-! ### instances -/
abbrev IS := List D → ER → (List (Str × D) → Prop) → Prop
def wo (H : Hp) (x : Addr) : Hp := fun a => if a = x then none else H a
theorem wo_same {H : Hp} {x : Addr} : wo H x x = none := by
  unfold wo
  rw [if_pos rfl]
theorem wo_ne {H : Hp} {x a : Addr} (h : a ≠ x) : wo H x a = H a := by
  unfold wo
  rw [if_neg h]
theorem same_wo {H : Hp} {x : Addr} : Same (wo H x) H := fun a o e => by
  by_cases h : a = x
  · rw [h, wo_same] at e
    cases e
  · rw [wo_ne h] at e
    exact e
theorem same_in_wo {F H : Hp} {x : Addr} (e : Same F H) (h : F x = none) : Same F (wo H x) := fun a o q => by
  rw [wo_ne (ne_of_none q h)]
  exact e a o q
def spInit (K : PySem.W.Frag) (C : Addr) (n : Nat) (S : IS) : Sp := fun vs H Q E => ∃ (x dx : Addr) (vs' : List V) (F : Hp) (ds : List D) (er : ER) (q : List (Str × D) → Prop), vs = .ref x :: vs' ∧ ds.length = n ∧ H x = some (.ins C dx []) ∧ F x = none ∧ Same F H ∧ RepA K F vs' ds ∧ S ds er q ∧
  (∀ (dy : Addr) (xs : List (Str × V)) (fs : List (Str × D)) (F' H' : Hp), Stp F F' (wo H x) H' → H' x = some (.ins C dy xs) → F' x = none → RepF K F' xs fs → q fs → Q .non H') ∧ EL K ⟨F, wo H x⟩ E er
theorem spInit_len {C : Addr} {n : Nat} {S : IS} {vs : List V} {H : Hp} {Q : VK} (h : spInit K C n S vs H Q E) : vs.length = n + 1 := by
  obtain ⟨x, dx, vs', F, ds, er, q, rfl, hl, _, _, _, r, _⟩ := h
  rw [List.length_cons, r.len, hl]
theorem Stp.weak {F F' H Hm H' : Hp} (s : Stp F F' Hm H') (e : Same H Hm) : Stp F F' H H' := ⟨s.ff, e.trans s.hh, s.fh, fun a h1 h2 => s.nw a h1 (by
  cases h : H a with
  | none => exact absurd h h2
  | some o =>
    rw [e a o h]
    exact fun z => nomatch z)⟩
theorem init_run {C : Addr} {n : Nat} {S : IS} {F1 H1 : Hp} {Q : VK} {er : ER} {q : D → Prop} {vs : List V} {ds : List D} (fh : Same F1 H1) (r : RepA K F1 vs ds) (hl : ds.length = n) (w : S ds er fun fs => q (.ins C fs)) (k : VL K F1 H1 Q q) (l : EL K ⟨F1, H1⟩ E er) :
    ∀ x dx, H1 x = none → H1 dx = none → dx ≠ x → spInit K C n S (.ref x :: vs) (upd (upd H1 dx (.own x)) x (.ins C dx [])) (fun v H2 => v = .non ∧ Q (.ref x) H2) E := fun x dx hx hdx hne => by
  have e0 : Same H1 (wo (upd (upd H1 dx (.own x)) x (.ins C dx [])) x) := fun a o e => by
    rw [wo_ne (ne_of_none e hx), upd_ne (ne_of_none e hx), upd_ne (ne_of_none e hdx)]
    exact e
  refine ⟨x, dx, vs, F1, ds, er, _, rfl, hl, upd_same, fh.free hx, fh.trans (e0.trans same_wo), r, w, fun dy xs fs F' H' s hx' hf rf z => ⟨rfl, ?_⟩, fun C' d fs F' H' s z1 z2 => l C' d fs F' H' (s.weak e0) z1 z2⟩
  have s1 : Stp F1 F' H1 H' := s.weak e0
  exact k _ _ _ _ (s1.freeze hx hf hx') (.ins upd_same (rf.mono (same_new hf))) z
def wMake (C : Addr) (n : Nat) (S : IS) (dd : List D) (wa : WA) : WE := fun env er q => wa env er fun ds => (ds ++ dd).length = n ∧ S (ds ++ dd) er fun fs => q (.ins C fs)
theorem sim_make {C : Addr} {n : Nat} {S : IS} {dvs : List V} {dd : List D} {t : TA} {w : WA} (hd : ∀ F, RepA K F dvs dd) (ha : SimA K E t w) : SimE K E (tMake C (spInit K C n S) dvs E t) (wMake C n S dd w) := fun B env F σ H Q er q a l w k =>
  ha B env F σ H _ er _ a l w fun xs ds F1 H1 s1 r1 w1 => init_run s1.fh (r1.app (hd F1)) w1.1 w1.2 (k.step s1) (l.at (a.step s1))
def wMake0 (C : Addr) (n : Nat) (S : IS) (dd : List D) (wa : WA) : WE := fun env er q => wa env er fun ds => (ds ++ dd).length = n ∧ S (ds ++ dd) (fun _ => False) fun fs => q (.ins C fs)
theorem sim_make0 {C : Addr} {n : Nat} {S : IS} {dvs : List V} {dd : List D} {t : TA} {w : WA} {E1 : XK} (hd : ∀ F, RepA K F dvs dd) (ha : SimA K E t w) : SimE K E (tMake C (spInit K C n S) dvs E1 t) (wMake0 C n S dd w) := fun B env F σ H Q er q a l w k =>
  ha B env F σ H _ er _ a l w fun xs ds F1 H1 s1 r1 w1 => init_run (E := E1) s1.fh (r1.app (hd F1)) w1.1 w1.2 (k.step s1) EL.no
/-- C(k = v, ..): g puts the values in the parameters' order -/
def wMakeK (C : Addr) (m n : Nat) (S : IS) (g : List D → List D) (wk : WA) : WE := fun env er q => wk env er fun zs => zs.length = m ∧ (g zs).length = n ∧ S (g zs) er fun fs => q (.ins C fs)
theorem sim_makeK {C : Addr} {m n : Nat} {S : IS} {gV : List V → List V → List V} {gW : List V → List V} {g : List D → List D} {tk : TA} {w : WA} (hv : ∀ x zs, gV [x] zs = x :: gW zs) (hg : ∀ F us zs, RepA K F us zs → RepA K F (gW us) (g zs)) (hk : SimA K E tk w) :
    SimE K E (tMakeK C 0 m (spInit K C n S) gV E tNil tk) (wMakeK C m n S g w) := fun B env F σ H Q er q a l w k =>
  hk B env F σ H _ er _ a l w fun xs ds F1 H1 s1 r1 w1 => ⟨rfl, by rw [r1.len]; exact w1.1, fun x dx hx hdx hne => by
    rw [hv]
    exact init_run s1.fh (hg F1 _ _ r1) w1.2.1 w1.2.2 (k.step s1) (l.at (a.step s1)) x dx hx hdx hne⟩
def putD (f : Str) (v : D) : List (Str × D) → List (Str × D)
  | [] => [(f, v)]
  | (g, x) :: r => if g = f then (g, v) :: r else (g, x) :: putD f v r
theorem RepF.put {F : Hp} {f : Str} {y : V} {d : D} (hy : Rep K F y d) : ∀ {xs : List (Str × V)} {fs : List (Str × D)}, RepF K F xs fs → RepF K F (putF f y xs) (putD f d fs)
  | _, _, .nil => .cons hy .nil
  | (n, v) :: xs, (_, e) :: fs, .cons h r => by
    unfold putF putD
    by_cases z : n = f
    · rw [if_pos z, if_pos z]
      exact .cons hy r
    · rw [if_neg z, if_neg z]
      exact .cons h (RepF.put hy r)
/-- self.f = e, in __init__ -/
def sFldI (C : Addr) (i : Nat) (f : Str) (we : WE) : WS := fun n env => match env[i]? with
  | some (.me a C' fs) => C' = C ∧ we env n.er fun d => fs.length < 1000 ∧ n.nx (env.set i (.me a C (putD f d fs)))
  | _ => False
theorem sims_fld {C : Addr} {i : Nat} {f : Str} (cl : Cls K C) (na : NoAttr K C f) (h : SimE K E te we) : SimS K E (sFld K (tVar i) te f) (sFldI C i f we) := fun B Dd n L env F σ H a w => by
  unfold sFldI at w
  split at w
  · rename_i p C' fs e
    obtain ⟨rfl, w⟩ := w
    obtain ⟨dx, xs, ex, h1, r, h2, h3⟩ := a.sl i _ e
    refine h B env F σ H _ n.er _ a L.er w fun y d F1 H1 s1 r1 w1 => ?_
    have g1 := s1.hh _ _ h1
    refine ⟨.ref p, ex, p, C', dx, xs, rfl, g1, cl, na, by rw [r.len]; exact w1.1, ?_⟩
    have f1 := s1.nw p h2 (by rw [h1]; exact fun z => nomatch z)
    exact L.nx _ F1 _ _ ((a.step s1).changeG (sw := .me p C' (putD f d fs)) e trivial ex f1 h3 ⟨dx, _, rfl, upd_same, RepF.put r1 (RepF.mono s1.ff r), f1, h3⟩) w1.2
  · exact w.elim
def envI (N : Nat) (x C : Addr) (ds : List D) : EV := .me x C [] :: (ds.map .d ++ List.replicate (N - (ds.length + 1)) .un)
open PySem.Spec PyProof.Rows
theorem startI_at {N : List Str} {F H : Hp} {x C dx : Addr} {vs : List V} {ds : List D} (s : Same F H) (hx : H x = some (.ins C dx [])) (hf : F x = none) (r : RepA K F vs ds) (hl : ds.length + 1 ≤ N.length) : At K ⟨F, wo H x⟩ (envI N.length x C ds) F (L2.start N (.ref x :: vs)) H := by
  have hlen := r.len
  have a0 : At K ⟨F, wo H x⟩ (.un :: (ds.map .d ++ List.replicate (N.length - (ds.length + 1)) .un)) F (L2.start N (.ref x :: vs)) H := by
    refine ⟨?_, ⟨Same.refl F, same_wo, s, fun a h _ => h⟩, fun i sv e => ?_, fun i j t u b e1 e2 m1 _ _ _ => ?_⟩
    · unfold L2.start
      simp only [List.length_append, List.length_map, List.length_replicate, List.length_cons, hlen]
      omega
    · cases i with
      | zero =>
        cases e
        trivial
      | succ i =>
        have e : (ds.map SV.d ++ List.replicate (N.length - (ds.length + 1)) .un)[i]? = some sv := by simpa using e
        by_cases hi : i < ds.length
        · rw [List.getElem?_append_left (by rw [List.length_map]; exact hi), List.getElem?_map] at e
          cases e2 : ds[i]? with
          | none =>
            rw [e2] at e
            cases e
          | some d =>
            rw [e2] at e
            cases e
            obtain ⟨y, hy, ry⟩ := r.getD e2
            refine ⟨y, ?_, ry⟩
            unfold L2.start
            rw [List.getElem?_append_left (by simp [hlen]; exact hi), List.getElem?_map, List.getElem?_cons_succ, hy]
            rfl
        · rw [List.getElem?_append_right (by rw [List.length_map]; omega)] at e
          have z := List.mem_replicate.mp (List.mem_of_getElem? e)
          rw [z.2]
          trivial
    · exfalso
      have z := List.mem_of_getElem? e1
      rcases List.mem_cons.mp z with z | z
      · rw [z] at m1
        exact m1
      rcases List.mem_append.mp z with z | z
      · obtain ⟨d, _, rfl⟩ := List.mem_map.mp z
        exact m1
      · rw [(List.mem_replicate.mp z).2] at m1
        exact m1
  have z : (L2.start N (.ref x :: vs))[0]? = some (some (.ref x)) := rfl
  have a1 := a0.setMine (i := 0) (p := x) (sv := .me x C []) trivial ⟨dx, [], rfl, hx, .nil, hf, wo_same⟩ fun j t hj e m q => by
    have := a0.sl j t e
    exfalso
    have z := List.mem_of_getElem? e
    rcases List.mem_cons.mp z with z | z
    · rw [z] at m
      exact m
    rcases List.mem_append.mp z with z | z
    · obtain ⟨d, _, rfl⟩ := List.mem_map.mp z
      exact m
    · rw [(List.mem_replicate.mp z).2] at m
      exact m
  exact a1
theorem body_init {N : List Str} {C : Addr} {n : Nat} {S : IS} {t : TS} {w : WS} {vs : List V} {H : Hp} {Q : VK} (ht : SimS K E t w) (hn : n + 1 ≤ N.length)
    (hw : ∀ x ds er q, ds.length = n → S ds er q → w { nx := fun env => ∃ fs, env[0]? = some (.me x C fs) ∧ q fs, rt := fun _ => False, er := er } (envI N.length x C ds)) (h : spInit K C n S vs H Q E) : t { nx := fun _ H' => Q .non H', rt := Q } (L2.start N vs) H := by
  obtain ⟨x, dx, vs', F, ds, er, q, rfl, hl, hx, hf, s, r, hS, kv, ke⟩ := h
  refine ht ⟨F, wo H x⟩ _ _ ⟨fun env F' σ H' a z => ?_, fun _ _ _ _ _ _ z => False.elim z, fun _ _ _ _ _ z => False.elim z, fun _ _ _ _ _ z => False.elim z, ke⟩ _ F _ H (startI_at s hx hf r (by omega)) (hw x ds er q hl hS)
  obtain ⟨fs, e, z⟩ := z
  obtain ⟨dy, xs, ex, h1, rf, h2, h3⟩ := a.sl 0 _ e
  exact kv dy xs fs F' H' a.st h1 h2 rf z
theorem ok_init {P : Program} {w : World} {mg : Str → Option Value} {base : Heap} {x qual : Str} {st : Stmt} {f C : Addr} {fd : FuncData} {N : List Str} {p : Str} {ps : List Str} {k : Nat} {S : IS} (F : Fun K x qual st f fd) (sc : FnScope N (p :: ps) (defScope st)) (hn : ps.length + 1 ≤ N.length)
    (hb : ∀ (cdv : Value) (A : Around) (outer : List Env) (s : Shared) (H : Hp) (E : XK), Room k (A.deeper (envOfC qual (defScope st) s.heap.objs.size f cdv)) →
      ∃ t ws, PSs (cxOf (L2.CX P w) P w K mg base N qual (defScope st) f cdv A outer s H E) (defBody st) t ∧ SimS K E t ws ∧
        ∀ x ds er q, ds.length = ps.length → S ds er q → ws { nx := fun env => ∃ fs, env[0]? = some (.me x C fs) ∧ q fs, rt := fun _ => False, er := er } (envI N.length x C ds)) :
    FnOk P w K mg base (L2.CX P w) (k + 1) f fd (p :: ps) (spInit K C ps.length S) := by
  refine F.okX sc (fun vs H Q E h => spInit_len h) (fun cdv A outer s H vs Q E hr h => ?_)
  obtain ⟨t, ws, h1, h2, h3⟩ := hb cdv A outer s H E hr
  exact ⟨t, h1, body_init h2 hn h3 h⟩

/-! ### own ==, != -/
def dOwnEq (K : PySem.W.Frag) (C : Addr) (S : FS) : D → D → (D → Prop) → Prop := fun x y q => match x with
  | .ins C' _ => C' = C ∧ OkTy K y ∧ PySem.W.notFirst K C (tyD y) = true ∧ S [x, y] (fun _ => False) q
  | _ => False
theorem sim_ownEq {C : Addr} {S : FS} {E1 : XK} : Sim2 K (rOwnEq K C (spOf K 2 S) E1) (dOwnEq K C S) := fun F H x y d e Q q s r1 r2 w k => by
  cases r1 with
  | @ins a C' dx xs fs h1 h2 =>
    obtain ⟨rfl, w1, w2, w3⟩ := w
    exact ⟨a, dx, xs, _, rfl, s _ _ h1, tyx_of s r2 w1, w2, F, _, _, q, rfl, s, .cons (.ins h1 h2) (.cons r2 .nil), w3, k, EL.no⟩
  | _ => exact w.elim
def dOwnNe (K : PySem.W.Frag) (C : Addr) (S : FS) : D → D → (D → Prop) → Prop := fun x y q => match x with
  | .ins C' _ => C' = C ∧ OkTy K y ∧ PySem.W.notFirst K C (tyD y) = true ∧ S [x, y] (fun _ => False) fun z => match z with
    | .bl b => q (.bl (!b))
    | _ => False
  | _ => False
theorem sim_ownNe {C : Addr} {S : FS} {E1 : XK} : Sim2 K (rOwnNe K C (spOf K 2 S) E1) (dOwnNe K C S) := fun F H x y d e Q q s r1 r2 w k => by
  cases r1 with
  | @ins a C' dx xs fs h1 h2 =>
    obtain ⟨rfl, w1, w2, w3⟩ := w
    refine ⟨a, dx, xs, _, rfl, s _ _ h1, tyx_of s r2 w1, w2, F, _, _, _, rfl, s, .cons (.ins h1 h2) (.cons r2 .nil), w3, fun v z F' H' s' r' z' => ?_, EL.no⟩
    cases r' with
    | bl b => exact ⟨b, rfl, k _ _ F' H' s' (.bl (!b)) z'⟩
    | _ => exact False.elim z'
  | _ => exact w.elim

/-! ### keywords of a def without defaults -/
theorem kb_of {x qual : Str} {st : Stmt} {f : Addr} {fd : FuncData} {ps : List Str} (F : Fun K x qual st f fd) (n : Nat) (ks : List Str) (g : {α : Type} → List α → List α → List α)
    (hr : ∀ {vs : List V} {us : List Value} {zs : List V} {ws : List Value}, Vals vs us → Vals zs ws → Vals (g vs zs) (g us ws))
    (h : ∀ (kV doc pm : Value) (an : Option Addr) (cdv ct : Value) (us ws : List Value), us.length = n → ws.length = ks.length → bindArgs (PySem.W.fnOf x qual (defArgs st) (defBody st) (defScope st) .none kV doc pm an cdv ct) ⟨us, ks.zip ws⟩ = pure (ps.zip (g us ws))) :
    KBn K fd ps n ks (fun us ws => g us ws) (fun vs zs => g vs zs) := by
  obtain ⟨oc, od, kV, doc, pm, an, cdv, ct, osl, rfl, lk, hcd⟩ := F.ex
  exact ⟨fun s us ws _ l1 l2 => .of_eq (h kV doc pm an cdv ct us ws l1 l2), fun r1 r2 => hr r1 r2⟩

/-! ### bags -/
theorem inv_view {pins : List (Addr × Obj)} {σ : L2.St} {H : Hp} {s : Shared} {a : Addr} {o : HO} (I : Inv X pins σ H s) (mu : Mut (H a)) (ht : ∃ u, s.heap.get? a = some u) (ok : ObjOk X.prog X.w (upd H a o) s.heap a o) : Inv X pins σ (upd H a o) s :=
  I.write (t' := s.toks) (x := a) (e := a) (h' := s.heap) mu (.inl rfl) (fun b u _ z => z) ht ok
end
end DL
/-! DL5: tests, isinstance by classes, own == by classes, bags. -/
namespace DL
open PySem L2
section
variable {K : PySem.W.Frag} {E : XK} {ta tb tc te : TE} {wa wb wc we : WE} {tt tu : TT} {wt wu : WT} {X : Cx}

/-! ### tests -/
def tyAnd (wt wu : WT) : WT := fun env er q => wt env er fun b => (b = true → wu env er q) ∧ (b = false → q false)
theorem simt_and (h : SimT K E tt wt) (g : SimT K E tu wu) : SimT K E (tAnd tt tu) (tyAnd wt wu) := fun B env F σ H Q er q a l w k =>
  h B env F σ H _ er _ a l w fun b F1 H1 s1 w1 => by
    cases b with
    | true => exact g B env F1 σ H1 Q er q (a.step s1) l (w1.1 rfl) fun b F2 H2 s2 => k b F2 H2 (s1.trans s2)
    | false => exact k false F1 H1 s1 (w1.2 rfl)
def tyOr (wt wu : WT) : WT := fun env er q => wt env er fun b => (b = true → q true) ∧ (b = false → wu env er q)
theorem simt_or (h : SimT K E tt wt) (g : SimT K E tu wu) : SimT K E (tOr tt tu) (tyOr wt wu) := fun B env F σ H Q er q a l w k =>
  h B env F σ H _ er _ a l w fun b F1 H1 s1 w1 => by
    cases b with
    | true => exact k true F1 H1 s1 (w1.1 rfl)
    | false => exact g B env F1 σ H1 Q er q (a.step s1) l (w1.2 rfl) fun b F2 H2 s2 => k b F2 H2 (s1.trans s2)
def tyNot (wt : WT) : WT := fun env er q => wt env er fun b => q (!b)
theorem simt_not (h : SimT K E tt wt) : SimT K E (tNot tt) (tyNot wt) := fun B env F σ H Q er q a l w k =>
  h B env F σ H _ er _ a l w fun b F1 H1 s1 w1 => k (!b) F1 H1 s1 w1

/-! ### classes by data -/
structure CtxD where
  own : Addr → Bool
  sub : Addr → Addr → Option Bool
def bts : List String := ["int", "bool", "str", "tuple", "list", "dict", "float", "set", "bytes", "type", "NoneType"]
structure TyOk (K : PySem.W.Frag) (A : CtxD) : Prop where
  cls : ∀ C, A.own C = true → OwnC K C
  up : ∀ C, A.own C = true → ∀ T ∈ bts, PySem.W.kitOne K (.ref C) (.type T) = some false
  dn : ∀ C, A.own C = true → ∀ T ∈ bts, PySem.W.kitOne K (.type T) (.ref C) = some false
  sub : ∀ C C' b, A.sub C C' = some b → A.own C = true ∧ PySem.W.kitOne K (.ref C) (.ref C') = some b
def isT (A : CtxD) : D → String → Option Bool
  | .int _, T => if T ∈ bts then some (T == "int") else none
  | .bl _, T => if T ∈ bts then some (T == "int" || T == "bool") else none
  | .str _, T => if T ∈ bts then some (T == "str") else none
  | .tup _, T => if T ∈ bts then some (T == "tuple") else none
  | .lst _, T => if T ∈ bts then some (T == "list") else none
  | .non, T => if T ∈ bts then some (T == "NoneType") else none
  | .ins C _, T => if T ∈ bts ∧ A.own C = true then some false else none
  | _, _ => none
def isO (A : CtxD) : D → Addr → Option Bool
  | .ins C _, C' => A.sub C C'
  | .ty _, _ => none
  | .obj _, _ => none
  | .scr _, _ => none
  | .bag _, _ => none
  | _, C' => if A.own C' = true then some false else none
theorem kits (K : PySem.W.Frag) : (∀ T ∈ bts, PySem.W.kitOne K (.type "int") (.type T) = some (T == "int")) ∧ (∀ T ∈ bts, PySem.W.kitOne K (.type "bool") (.type T) = some (T == "int" || T == "bool")) ∧ (∀ T ∈ bts, PySem.W.kitOne K (.type "str") (.type T) = some (T == "str")) ∧
    (∀ T ∈ bts, PySem.W.kitOne K (.type "tuple") (.type T) = some (T == "tuple")) ∧ (∀ T ∈ bts, PySem.W.kitOne K (.type "list") (.type T) = some (T == "list")) ∧ (∀ T ∈ bts, PySem.W.kitOne K (.type "NoneType") (.type T) = some (T == "NoneType")) := by
  refine ⟨?_, ?_, ?_, ?_, ?_, ?_⟩
  all_goals
    intro T hT
    unfold bts at hT
    simp only [List.mem_cons, List.not_mem_nil, or_false] at hT
    rcases hT with rfl | rfl | rfl | rfl | rfl | rfl | rfl | rfl | rfl | rfl | rfl <;> kernel_rfl
def isA (A : CtxD) : List D → (D → Prop) → Prop
  | [x, .ty T], q => match isT A x T with
    | some b => q (.bl b)
    | none => False
  | [x, .obj C], q => match isO A x C with
    | some b => q (.bl b)
    | none => False
  | _, _ => False
theorem isT_ok {A : CtxD} (h : TyOk K A) {x : D} {T : String} {b : Bool} (e : isT A x T = some b) : OkTy K x ∧ PySem.W.kitOne K (tyD x) (.type T) = some b := by
  obtain ⟨k1, k2, k3, k4, k5, k6⟩ := kits K
  have it : ∀ {c : Bool}, (if T ∈ bts then some c else none) = some b → T ∈ bts ∧ c = b := fun {c} z => by
    split at z
    · rename_i z1
      exact ⟨z1, Option.some.inj z⟩
    · cases z
  cases x with
  | ins C fs =>
    have e : (if T ∈ bts ∧ A.own C = true then some false else none) = some b := e
    split at e
    · rename_i z
      cases e
      exact ⟨h.cls C z.2, h.up C z.2 T z.1⟩
    · cases e
  | non =>
    obtain ⟨z, rfl⟩ := it e
    exact ⟨trivial, k6 T z⟩
  | bl c =>
    obtain ⟨z, rfl⟩ := it e
    exact ⟨trivial, k2 T z⟩
  | int c =>
    obtain ⟨z, rfl⟩ := it e
    exact ⟨trivial, k1 T z⟩
  | str c =>
    obtain ⟨z, rfl⟩ := it e
    exact ⟨trivial, k3 T z⟩
  | tup c =>
    obtain ⟨z, rfl⟩ := it e
    exact ⟨trivial, k4 T z⟩
  | lst c =>
    obtain ⟨z, rfl⟩ := it e
    exact ⟨trivial, k5 T z⟩
  | _ => cases e
theorem isO_ok {A : CtxD} (h : TyOk K A) {x : D} {C : Addr} {b : Bool} (e : isO A x C = some b) : OkTy K x ∧ PySem.W.kitOne K (tyD x) (.ref C) = some b := by
  have sm : ∀ {T : String} {y : Bool}, T ∈ bts → (if A.own C = true then some false else none) = some y → PySem.W.kitOne K (.type T) (.ref C) = some y := fun {T y} hT z => by
    split at z
    · rename_i z1
      cases z
      exact h.dn C z1 T hT
    · cases z
  cases x with
  | ins C' fs =>
    obtain ⟨h1, h2⟩ := h.sub C' C b e
    exact ⟨h.cls C' h1, h2⟩
  | non => exact ⟨trivial, sm (by decide) e⟩
  | bl c => exact ⟨trivial, sm (by decide) e⟩
  | int c => exact ⟨trivial, sm (by decide) e⟩
  | str c => exact ⟨trivial, sm (by decide) e⟩
  | tup c => exact ⟨trivial, sm (by decide) e⟩
  | lst c => exact ⟨trivial, sm (by decide) e⟩
  | _ => cases e
theorem sim_isA {A : CtxD} (h : TyOk K A) : SimC K (rIsi K) (isA A) := fun F H xs ds Q q s r w k => by
  refine sim_isi F H xs ds Q q s r ?_ k
  unfold isA at w
  split at w
  · split at w
    · rename_i b e
      obtain ⟨h1, h2⟩ := isT_ok h e
      exact ⟨h1, b, h2, w⟩
    · exact w.elim
  · split at w
    · rename_i b e
      obtain ⟨h1, h2⟩ := isO_ok h e
      exact ⟨h1, b, h2, w⟩
    · exact w.elim
  · exact w.elim

/-! ### own ==, != -/
def okEq (A : CtxD) (C : Addr) (y : D) : Prop := isO A y C = some false ∨ ∃ fs, y = .ins C fs ∧ A.own C = true
theorem nf_of {C : Addr} {t : Value} (h : PySem.W.kitOne K t (.ref C) = some false) : PySem.W.notFirst K C t = true := by
  unfold PySem.W.kitOne at h
  split at h
  · cases h
  · unfold PySem.W.kitCls at h
    have h : (if ((PySem.W.clsIn K C).isSome && PySem.W.typeIn K (.ref C) == some (.type "type")) = true then PySem.W.subIn K t (.ref C) else none) = some false := h
    split at h
    · unfold PySem.W.notFirst
      rw [h]
      simp
    · cases h
theorem okEq_ok {A : CtxD} (h : TyOk K A) {C : Addr} {y : D} (e : okEq A C y) : OkTy K y ∧ PySem.W.notFirst K C (tyD y) = true := by
  rcases e with e | ⟨fs, rfl, e⟩
  · obtain ⟨h1, h2⟩ := isO_ok h e
    exact ⟨h1, nf_of h2⟩
  · refine ⟨h.cls C e, ?_⟩
    unfold PySem.W.notFirst tyD
    simp
def eqO (A : CtxD) (C : Addr) (S : FS) : D → D → (D → Prop) → Prop := fun x y q => match x with
  | .ins C' _ => C' = C ∧ okEq A C y ∧ S [x, y] (fun _ => False) q
  | _ => False
theorem sim_eqO {A : CtxD} (h : TyOk K A) {C : Addr} {S : FS} {E1 : XK} : Sim2 K (rOwnEq K C (spOf K 2 S) E1) (eqO A C S) := fun F H x y d e Q q s r1 r2 w k => by
  refine sim_ownEq F H x y d e Q q s r1 r2 ?_ k
  cases d with
  | ins C' fs =>
    obtain ⟨w1, w2, w3⟩ := w
    obtain ⟨z1, z2⟩ := okEq_ok h w2
    exact ⟨w1, z1, z2, w3⟩
  | _ => exact w.elim
def neO (A : CtxD) (C : Addr) (S : FS) : D → D → (D → Prop) → Prop := fun x y q => match x with
  | .ins C' _ => C' = C ∧ okEq A C y ∧ S [x, y] (fun _ => False) fun z => match z with
    | .bl b => q (.bl (!b))
    | _ => False
  | _ => False
theorem sim_neO {A : CtxD} (h : TyOk K A) {C : Addr} {S : FS} {E1 : XK} : Sim2 K (rOwnNe K C (spOf K 2 S) E1) (neO A C S) := fun F H x y d e Q q s r1 r2 w k => by
  refine sim_ownNe F H x y d e Q q s r1 r2 ?_ k
  cases d with
  | ins C' fs =>
    obtain ⟨w1, w2, w3⟩ := w
    obtain ⟨z1, z2⟩ := okEq_ok h w2
    exact ⟨w1, z1, z2, w3⟩
  | _ => exact w.elim

/-! ### bags -/
theorem vals_nats {p q r : Nat} {its : List Value} (h : Vals [V.int p, V.int q, V.int r] its) : ∃ t u v, its = [.int p t, .int q u, .int r v] := by
  cases h with
  | cons h1 h =>
    cases h with
    | cons h2 h =>
      cases h with
      | cons h3 h =>
        cases h
        obtain ⟨t, rfl⟩ := h1
        obtain ⟨u, rfl⟩ := h2
        obtain ⟨v, rfl⟩ := h3
        exact ⟨t, u, v, rfl⟩
theorem bag_close {pins : List (Addr × Obj)} {σ : L2.St} {H : Hp} {s : Shared} {a : Addr} {p q r : Nat} (I : Inv X pins σ H s) (h : H a = some (.lst [.int p, .int q, .int r])) : Inv X pins σ (upd H a (BagO a)) s := by
  obtain ⟨its, n, rv, ho, hz⟩ := I.lst h
  obtain ⟨t, u, v, rfl⟩ := vals_nats rv
  refine inv_view I (by rw [h]; trivial) ⟨_, ho⟩ ?_
  exact ⟨⟨p, q, r, t, u, v, n, ho⟩, ⟨_, ho⟩, fun h1 h2 z k => by
    obtain ⟨p, q, r, t, u, v, n, z⟩ := z
    exact ⟨p, q, r, t, u, v, n, k _ z⟩⟩
theorem bag_open {pins : List (Addr × Obj)} {σ : L2.St} {H : Hp} {s : Shared} {a : Addr} (I : Inv X pins σ H s) (h : H a = some (BagO a)) : ∃ p q r : Nat, Inv X pins σ (upd H a (.lst [.int p, .int q, .int r])) s := by
  have x : ObjOk X.prog X.w H s.heap a (.ext (BagP a)) := I.hok a _ h
  obtain ⟨p, q, r, t, u, v, n, ho⟩ := x.1
  refine ⟨p, q, r, inv_view I (by rw [h]; trivial) ⟨_, ho⟩ ?_⟩
  exact ⟨by show 3 ≤ sizeLine; decide, _, n, .cons ⟨t, rfl⟩ (.cons ⟨u, rfl⟩ (.cons ⟨v, rfl⟩ .nil)), ho⟩
def tAsBag (te : TE) : TE := fun σ H Q => te σ H fun x H1 => ∃ (a : Addr) (p q r : Nat), x = .ref a ∧ H1 a = some (.lst [.int p, .int q, .int r]) ∧ Q (.ref a) (upd H1 a (BagO a))
theorem pe_asBag {e : Expr} {te : TE} (h : PE X e te) : PE X e (tAsBag te) := ⟨fun pins s σ H Q I w => by
  refine thn (h.run pins s σ H _ I w) fun v s1 z => ?_
  obtain ⟨x, H1, I1, r1, a, p, q, r, rfl, h1, z⟩ := z
  exact ⟨.ref a, _, bag_close I1 h1, r1, z⟩⟩
def wBag (wo : WO) : WE := fun env er q => wo env er fun l => match l with
  | [.int i, .int j, .int k] => (0 ≤ i ∧ 0 ≤ j ∧ 0 ≤ k) ∧ ∀ a, q (.bag a)
  | _ => False
theorem sim_asBag {wo : WO} (h : SimO K E te wo) : SimE K E (tAsBag te) (wBag wo) := fun B env F σ H Q er q a l w k =>
  h B env F σ H _ er _ a l w fun p xs ls F1 H1 s1 hp h1 hf r1 w1 => by
    split at w1
    case h_2 => exact w1.elim
    rename_i i j m
    obtain ⟨⟨h0, h2, h3⟩, z⟩ := w1
    obtain ⟨i, rfl⟩ := Int.eq_ofNat_of_zero_le h0
    obtain ⟨j, rfl⟩ := Int.eq_ofNat_of_zero_le h2
    obtain ⟨m, rfl⟩ := Int.eq_ofNat_of_zero_le h3
    have e : xs = [V.int (i : Nat), V.int (j : Nat), V.int (m : Nat)] := RepA.ints_inv (K := K) (F := F1) (ns := [((i : Nat) : Int), ((j : Nat) : Int), ((m : Nat) : Int)]) r1
    subst e
    exact ⟨p, i, j, m, rfl, h1, k _ _ _ _ ((s1.mut hp hf).freeze hp hf upd_same) (.bag upd_same) (z p)⟩
/-- a def's body with the bag in the slot i opened -/
def tOpen (i : Nat) (t : TS) : TS := fun Dd σ H => ∃ a : Addr, σ[i]? = some (some (.ref a)) ∧ H a = some (BagO a) ∧ ∀ p q r : Nat, t Dd σ (upd H a (.lst [.int p, .int q, .int r]))
theorem pss_open {i : Nat} {b : List Stmt} {t : TS} (h : PSs X b t) : PSs X b (tOpen i t) := ⟨fun pins s σ H Dd I w => by
  obtain ⟨a, _, h1, w⟩ := w
  obtain ⟨p, q, r, I1⟩ := bag_open I h1
  exact h.run pins s σ _ Dd I1 (w p q r)⟩
def tShut (i : Nat) (te : TE) : TE := fun σ H Q => te σ H fun x H1 => ∃ (a : Addr) (p q r : Nat), σ[i]? = some (some (.ref a)) ∧ H1 a = some (.lst [.int p, .int q, .int r]) ∧ Q x (upd H1 a (BagO a))
theorem pe_shut {i : Nat} {e : Expr} {te : TE} (h : PE X e te) : PE X e (tShut i te) := ⟨fun pins s σ H Q I w => by
  refine thn (h.run pins s σ H _ I w) fun v s1 z => ?_
  obtain ⟨x, H1, I1, r1, a, p, q, r, _, h1, z⟩ := z
  exact ⟨x, _, bag_close I1 h1, r1, z⟩⟩
theorem upd_id {H : Hp} {a : Addr} {o : HO} (h : H a = some o) : upd H a o = H := by
  funext b
  by_cases e : b = a
  · rw [e, upd_same, h]
  · rw [upd_ne e]
end
end DL
/-! DL6: the law's draw from a bag. -/
namespace DL
open PySem L2
section
variable {K : PySem.W.Frag} {E : XK} {X : Cx}
def sDraw : FS := fun ds er q => match ds with
  | [.bag _, .int w] => 0 < w ∧ w < 2 ^ 64 ∧ ∀ r : Int, 0 ≤ r → r < w → q (.int r)
  | _ => False
abbrev bIx (K : PySem.W.Frag) (i : Int) : TE := tOp (rIx K) (tVar 0) (tC (.int i))
def tDraw1 (K : PySem.W.Frag) : TS := tAsg (tOp (rAddD K) (bIx K 2) (tC (.int 1))) (gSub (tVar 0) (tC (.int 2)) rSetL)
def tDraw2 (K : PySem.W.Frag) : TS := tIfS (tTest (tOp rGtD (bIx K 0) (tC (.int 0)))) (tSeq (tAsg (tOp rModD (tCB rIntD (tCons (bIx K 0) tNil)) (tVar 1)) (gName 2)) (tSeq (tAsg (tOp rDivD (bIx K 0) (tVar 1)) (gSub (tVar 0) (tC (.int 0)) rSetL)) (tRet (tShut 0 (tVar 2))))) tNext
def tDraw3 (K : PySem.W.Frag) : TS := tAsg (tOp (rAddD K) (tCB rIntD (tCons (bIx K 1) tNil)) (tOp rMulD (tC (.int 104651)) (bIx K 2))) (gName 3)
def tDraw4 (K : PySem.W.Frag) : TS := tAsg (tOp rModD (tCB rIntD (tCons (tOp (rAddD K) (tOp (rAddD K) (tOp rMulD (tVar 3) (tOp (rAddD K) (tOp rModD (tCB rIntD (tCons (tVar 3) tNil)) (tC (.int 59999))) (tC (.int 40013)))) (tOp rMulD (tC (.int 7)) (bIx K 2))) (tC (.int 13))) tNil)) (tC (.int 2147483587))) (gSub (tVar 0) (tC (.int 1)) rSetL)
def tDraw5 (K : PySem.W.Frag) : TS := tRet (tShut 0 (tOp rModD (tOp rDivD (tCB rIntD (tCons (bIx K 1) tNil)) (tC (.int 521))) (tVar 1)))
def tDraw (K : PySem.W.Frag) : TS := tOpen 0 (tSeq (tDraw1 K) (tSeq (tDraw2 K) (tSeq (tDraw3 K) (tSeq (tDraw4 K) (tDraw5 K)))))
theorem bix {σ : L2.St} {H : Hp} {Q : VK} {a : Addr} {xs : List V} {i : Int} {v : V} (h0 : σ[0]? = some (some (.ref a))) (h : H a = some (.lst xs)) (e : atI xs i = some v) (q : Q v H) : bIx K i σ H Q :=
  ⟨.ref a, h0, .inl ⟨a, xs, i, v, rfl, rfl, SqL.of h, e, q⟩⟩
theorem bset {σ : L2.St} {H : Hp} {Q : L2.St → Hp → Prop} {a : Addr} {xs : List V} {i : Int} {j : Nat} {v : V} (h0 : σ[0]? = some (some (.ref a))) (h : H a = some (.lst xs)) (e : ixN xs.length i = some j) (q : Q σ (upd H a (.lst (xs.set j v)))) : gSub (tVar 0) (tC (.int i)) rSetL v σ H Q :=
  ⟨.ref a, h0, a, xs, i, j, rfl, rfl, h, e, q⟩
theorem draw_ok {N : List Str} {vs : List V} {H : Hp} {Q : VK} (h : spOf K 2 sDraw vs H Q E) (hN : N.length = 4) : tDraw K { nx := fun _ H' => Q .non H', rt := Q } (L2.start N vs) H := by
  obtain ⟨F, ds, er, q, hl, s, r, hS, kv, ke⟩ := h
  unfold sDraw at hS
  split at hS
  · rename_i b w
    obtain ⟨w0, w1, hq⟩ := hS
    cases r with
    | cons r1 r =>
      cases r with
      | cons r2 r =>
        cases r
        cases r2
        cases r1 with
        | bag hb =>
          have hH := s _ _ hb
          have st : L2.start N [V.ref b, .int w] = [some (.ref b), some (.int w), none, none] := by
            unfold L2.start
            rw [hN]
            rfl
          rw [st]
          have hw : CDivW 0 w := ⟨w0, by
            have : w.natAbs < 2 ^ 64 := by omega
            have := Nat.log2_lt (n := w.natAbs) (k := 64) (by omega)
            omega⟩
          have fin : ∀ (z : Int), 0 ≤ z → z < w → Q (.int z) H := fun z h1 h2 => kv.here s (.int z) (hq z h1 h2)
          have em : ∀ z : Int, 0 ≤ z % w ∧ z % w < w := fun z => ⟨Int.emod_nonneg _ (by omega), Int.emod_lt_of_pos _ w0⟩
          refine ⟨b, rfl, hH, fun p p1 p2 => ?_⟩
          have g1 : ∀ xs, (upd H b (HO.lst xs)) b = some (.lst xs) := fun xs => upd_same
          -- the count
          refine bix (v := .int p2) rfl (g1 _) rfl ?_
          refine .inl ⟨p2, 1, rfl, rfl, ?_⟩
          refine bset (j := 2) rfl (g1 _) rfl ?_
          rw [upd_upd]
          show tSeq (tDraw2 K) _ _ _ (upd H b (.lst [.int p, .int p1, .int ((p2 : Int) + 1)]))
          -- the figures
          refine bix (v := .int p) rfl (g1 _) rfl ?_
          refine ⟨_, _, rfl, rfl, _, rfl, ?_⟩
          refine ite2 (fun _ => ?_) (fun _ => ?_)
          · refine bix (v := .int p) rfl (g1 _) rfl ?_
            refine .inl ⟨_, rfl, ?_⟩
            refine ⟨_, rfl, _, _, rfl, rfl, w0, ?_⟩
            refine bix (v := .int p) rfl (g1 _) rfl ?_
            refine ⟨_, rfl, _, _, rfl, rfl, hw, ?_⟩
            refine bset (j := 0) rfl (g1 _) rfl ?_
            rw [upd_upd]
            obtain ⟨m, hm⟩ := Int.eq_ofNat_of_zero_le (Int.ediv_nonneg (Int.natCast_nonneg p) (Int.le_of_lt w0))
            refine ⟨_, rfl, b, m, p1, p2 + 1, rfl, ?_, ?_⟩
            · rw [g1]
              show some (HO.lst [V.int ((p : Int) / w), V.int p1, V.int ((p2 : Int) + 1)]) = _
              rw [hm]
              rfl
            · rw [upd_upd, upd_id hH]
              exact fin _ (em _).1 (em _).2
          · refine bix (v := .int p1) rfl (g1 _) rfl ?_
            refine .inl ⟨_, rfl, ?_⟩
            refine bix (v := .int ((p2 : Int) + 1)) rfl (g1 _) rfl ?_
            refine .inl ⟨_, _, rfl, rfl, .inl (by decide), ?_⟩
            refine .inl ⟨_, _, rfl, rfl, ?_⟩
            show tSeq (tDraw4 K) _ _ [some (.ref b), some (.int w), none, some (.int ((p1 : Int) + 104651 * ((p2 : Int) + 1)))] _
            generalize ((p1 : Int) + 104651 * ((p2 : Int) + 1)) = z
            refine ⟨_, rfl, _, rfl, .inl ⟨_, rfl, ?_⟩⟩
            have k1 : 0 ≤ z % 59999 ∧ z % 59999 < 59999 := ⟨Int.emod_nonneg _ (by decide), Int.emod_lt_of_pos _ (by decide)⟩
            refine ⟨_, _, rfl, rfl, (show (0 : Int) < _ by decide), ?_⟩
            refine .inl ⟨_, _, rfl, rfl, ?_⟩
            refine .inl ⟨_, _, rfl, rfl, .inr (by omega), ?_⟩
            refine bix (v := .int ((p2 : Int) + 1)) rfl (g1 _) rfl ?_
            refine .inl ⟨_, _, rfl, rfl, .inl (by decide), ?_⟩
            refine .inl ⟨_, _, rfl, rfl, ?_⟩
            refine .inl ⟨_, _, rfl, rfl, ?_⟩
            refine .inl ⟨_, rfl, ?_⟩
            refine ⟨_, _, rfl, rfl, (show (0 : Int) < _ by decide), ?_⟩
            refine bset (j := 1) rfl (g1 _) rfl ?_
            rw [upd_upd]
            obtain ⟨m, hm⟩ := Int.eq_ofNat_of_zero_le (Int.emod_nonneg (z * (z % 59999 + 40013) + 7 * ((p2 : Int) + 1) + 13) (b := 2147483587) (by decide))
            show tDraw5 K _ _ (upd H b (.lst [.int p, .int ((z * (z % 59999 + 40013) + 7 * ((p2 : Int) + 1) + 13) % 2147483587), .int ((p2 : Int) + 1)]))
            rw [hm]
            show tDraw5 K _ _ (upd H b (.lst [.int p, .int m, .int ((p2 : Int) + 1)]))
            refine bix (v := .int m) rfl (g1 _) rfl ?_
            refine .inl ⟨_, rfl, ?_⟩
            refine ⟨_, _, rfl, rfl, ⟨by decide, by decide +kernel⟩, ?_⟩
            refine ⟨_, rfl, _, _, rfl, rfl, w0, ?_⟩
            refine ⟨b, p, m, p2 + 1, rfl, ?_, ?_⟩
            · rw [g1]
              rfl
            · rw [upd_upd, upd_id hH]
              exact fin _ (em _).1 (em _).2
  · exact hS.elim
end
end DL
namespace DL
open PySem L2
section
variable {K : PySem.W.Frag} {E E1 : XK} {ta : TE} {wa : WE} {X : Cx}
/-! ### calls that raise nothing -/
def wMeth0 (C : Addr) (m : Str) (n : Nat) (S : FS) (dd : List D) (wa : WE) (wr : WA) : WE := fun env er q => wa env er fun o => match o with
  | .ins C' fs => C' = C ∧ fs.lookup m = none ∧ wr env er fun ds => (o :: (ds ++ dd)).length = n ∧ S (o :: (ds ++ dd)) (fun _ => False) q
  | _ => False
theorem sim_meth0 {C : Addr} {m : Str} {n : Nat} {S : FS} {dvs : List V} {dd : List D} {t : TA} {w : WA} (hd : ∀ F, RepA K F dvs dd) (ho : SimE K E ta wa) (ha : SimA K E t w) : SimE K E (tMeth C m (spOf K n S) dvs E1 ta t) (wMeth0 C m n S dd wa w) := fun B env F σ H Q er q a l w k =>
  ho B env F σ H _ er _ a l w fun x d F1 H1 s1 r1 w1 => by
    cases r1 with
    | @ins p C' dx xs fs h1 h2 =>
      obtain ⟨e1, e2, w2⟩ := w1
      subst e1
      refine ⟨p, dx, xs, rfl, s1.fh _ _ h1, h2.none e2, ha B env F1 σ H1 _ er _ (a.step s1) l w2 fun ys ds F2 H2 s2 r2 w3 => ?_⟩
      exact ⟨F2, _, _, q, w3.1, s2.fh, .cons ((Rep.ins h1 h2).mono s2.ff) (r2.app (hd F2)), w3.2, k.step (s1.trans s2), EL.no⟩
    | _ => exact w1.elim
def wMethN0 (C : Addr) (m : Str) (mm p : Nat) (S : FS) (g : List D → List D → List D) (wa : WE) (wk : WA) : WE := fun env er q => wa env er fun o => match o with
  | .ins C' fs => C' = C ∧ fs.lookup m = none ∧ wk env er fun zs => zs.length = mm ∧ (g [o] zs).length = p ∧ S (g [o] zs) (fun _ => False) q
  | _ => False
theorem sim_methN0 {C : Addr} {m : Str} {mm p : Nat} {S : FS} {gV : List V → List V → List V} {g : List D → List D → List D} {tk : TA} {wk : WA} (hg : ∀ F vs ds us zs, RepA K F vs ds → RepA K F us zs → RepA K F (gV vs us) (g ds zs)) (ho : SimE K E ta wa) (hk : SimA K E tk wk) :
    SimE K E (tMethN C m 0 mm (spOf K p S) gV E1 ta tNil tk) (wMethN0 C m mm p S g wa wk) := fun B env F σ H Q er q a l w k =>
  ho B env F σ H _ er _ a l w fun x d F1 H1 s1 r1 w1 => by
    cases r1 with
    | @ins b C' dx xs fs h1 h2 =>
      obtain ⟨e1, e2, w2⟩ := w1
      subst e1
      refine ⟨b, dx, xs, rfl, s1.fh _ _ h1, h2.none e2, hk B env F1 σ H1 _ er _ (a.step s1) l w2 fun ys zs F2 H2 s2 r2 w3 => ?_⟩
      exact ⟨rfl, by rw [r2.len]; exact w3.1, F2, _, _, q, w3.2.1, s2.fh, hg F2 _ _ _ _ (.one ((Rep.ins h1 h2).mono s2.ff)) r2, w3.2.2, k.step (s1.trans s2), EL.no⟩
    | _ => exact w1.elim
def wCallN0 (n m p : Nat) (S : FS) (g : List D → List D → List D) (wa wk : WA) : WE := fun env er q => wa env er fun ds => wk env er fun zs => ds.length = n ∧ zs.length = m ∧ (g ds zs).length = p ∧ S (g ds zs) (fun _ => False) q
theorem sim_callN0 {n m p : Nat} {S : FS} {gV : List V → List V → List V} {g : List D → List D → List D} {t tk : TA} {w wk : WA} (hg : ∀ F vs ds us zs, RepA K F vs ds → RepA K F us zs → RepA K F (gV vs us) (g ds zs)) (ha : SimA K E t w) (hk : SimA K E tk wk) :
    SimE K E (tCallN n m (spOf K p S) gV E1 t tk) (wCallN0 n m p S g w wk) := fun B env F σ H Q er q a l w k =>
  ha B env F σ H _ er _ a l w fun xs ds F1 H1 s1 r1 w1 => hk B env F1 σ H1 _ er _ (a.step s1) l w1 fun ys zs F2 H2 s2 r2 w2 =>
    ⟨by rw [r1.len]; exact w2.1, by rw [r2.len]; exact w2.2.1, F2, g ds zs, _, q, w2.2.2.1, s2.fh, hg F2 _ _ _ _ (RepA.mono s2.ff r1) r2, w2.2.2.2, k.step (s1.trans s2), EL.no⟩
def wMakeK0 (C : Addr) (m n : Nat) (S : IS) (g : List D → List D) (wk : WA) : WE := fun env er q => wk env er fun zs => zs.length = m ∧ (g zs).length = n ∧ S (g zs) (fun _ => False) fun fs => q (.ins C fs)
theorem sim_makeK0 {C : Addr} {m n : Nat} {S : IS} {gV : List V → List V → List V} {gW : List V → List V} {g : List D → List D} {tk : TA} {w : WA} (hv : ∀ x zs, gV [x] zs = x :: gW zs) (hg : ∀ F us zs, RepA K F us zs → RepA K F (gW us) (g zs)) (hk : SimA K E tk w) :
    SimE K E (tMakeK C 0 m (spInit K C n S) gV E1 tNil tk) (wMakeK0 C m n S g w) := fun B env F σ H Q er q a l w k =>
  hk B env F σ H _ er _ a l w fun xs ds F1 H1 s1 r1 w1 => ⟨rfl, by rw [r1.len]; exact w1.1, fun x dx hx hdx hne => by
    rw [hv]
    exact init_run s1.fh (hg F1 _ _ r1) w1.2.1 w1.2.2 (k.step s1) EL.no x dx hx hdx hne⟩

/-! ### keywords, in the parameters' order -/
def perm {α : Type} (p : List Nat) (l : List α) : List α := p.filterMap fun i => l[i]?
def pmA {α : Type} (p : List Nat) (vs zs : List α) : List α := vs ++ perm p zs
theorem perm_rep {F : Hp} {us : List V} {zs : List D} (h : RepA K F us zs) : ∀ p : List Nat, RepA K F (perm p us) (perm p zs)
  | [] => .nil
  | i :: p => by
    unfold perm
    rw [List.filterMap_cons, List.filterMap_cons]
    cases e : us[i]? with
    | none =>
      have e2 : zs[i]? = none := by
        rw [List.getElem?_eq_none_iff] at e ⊢
        rw [← h.len]
        exact e
      rw [e2]
      exact perm_rep h p
    | some x =>
      obtain ⟨y, e2, r⟩ := h.get e
      rw [e2]
      exact .cons r (perm_rep h p)
theorem pm_ok (p : List Nat) : ∀ (F : Hp) (vs : List V) (ds : List D) (us : List V) (zs : List D), RepA K F vs ds → RepA K F us zs → RepA K F (pmA p vs us) (pmA p ds zs) := fun _ _ _ _ _ h g => h.app (perm_rep g p)
theorem pw_ok (p : List Nat) : ∀ (F : Hp) (us : List V) (zs : List D), RepA K F us zs → RepA K F (perm p us) (perm p zs) := fun _ _ _ g => perm_rep g p
theorem pw_hv (p : List Nat) (x : V) (zs : List V) : pmA p [x] zs = x :: perm p zs := rfl
theorem vals_get : ∀ {us : List V} {zs : List Value} {i : Nat}, Vals us zs → (us[i]? = none ∧ zs[i]? = none) ∨ ∃ x y, us[i]? = some x ∧ zs[i]? = some y ∧ RelV x y
  | [], _, i, .nil => .inl ⟨rfl, rfl⟩
  | _ :: _, _, 0, .cons h _ => .inr ⟨_, _, rfl, rfl, h⟩
  | _ :: _, _, i + 1, .cons _ r => by
    rw [List.getElem?_cons_succ, List.getElem?_cons_succ]
    exact vals_get r
theorem perm_vals {us : List V} {zs : List Value} (h : Vals us zs) : ∀ p : List Nat, Vals (perm p us) (perm p zs)
  | [] => .nil
  | i :: p => by
    unfold perm
    rw [List.filterMap_cons, List.filterMap_cons]
    rcases vals_get (i := i) h with ⟨e1, e2⟩ | ⟨x, y, e1, e2, r⟩
    · rw [e1, e2]
      exact perm_vals h p
    · rw [e1, e2]
      exact .cons r (perm_vals h p)
theorem kb_perm {x qual : Str} {st : Stmt} {f : Addr} {fd : FuncData} {ps : List Str} (F : Fun K x qual st f fd) (n : Nat) (ks : List Str) (p : List Nat)
    (h : ∀ (kV doc pm : Value) (an : Option Addr) (cdv ct : Value) (us ws : List Value), us.length = n → ws.length = ks.length → bindArgs (PySem.W.fnOf x qual (defArgs st) (defBody st) (defScope st) .none kV doc pm an cdv ct) ⟨us, ks.zip ws⟩ = pure (ps.zip (pmA p us ws))) :
    KBn K fd ps n ks (pmA p) (pmA p) := kb_of F n ks (fun {α} => pmA (α := α) p) (fun h1 h2 => h1.append (perm_vals h2 p)) h
theorem passN {P : Program} {w : World} : Passes (L2.CX P w) X E0 := fun _ _ _ _ _ _ _ ⟨_, _, _, _, _, _, _, _, _, _, _, _, h⟩ => h.elim
theorem hu64 {k : Nat} {A : Around} (hr : Room k A) : A.units + 64 < cLine := by
  have := hr.un
  omega
end
theorem bt_int : bootBuiltins "int" = some (.type "int") := by kernel_rfl
theorem bt_bool : bootBuiltins "bool" = some (.type "bool") := by kernel_rfl
theorem bt_str : bootBuiltins "str" = some (.type "str") := by kernel_rfl
theorem bt_tuple : bootBuiltins "tuple" = some (.type "tuple") := by kernel_rfl
theorem bt_list : bootBuiltins "list" = some (.type "list") := by kernel_rfl
theorem bt_dict : bootBuiltins "dict" = some (.type "dict") := by kernel_rfl
theorem bt_float : bootBuiltins "float" = some (.type "float") := by kernel_rfl
theorem bt_set : bootBuiltins "set" = some (.type "set") := by kernel_rfl
theorem bt_bytes : bootBuiltins "bytes" = some (.type "bytes") := by kernel_rfl
theorem bt_type : bootBuiltins "type" = some (.type "type") := by kernel_rfl
theorem bt_len : bootBuiltins "len" = some (.builtin "len") := by kernel_rfl
theorem bt_all : bootBuiltins "all" = some (.builtin "all") := by kernel_rfl
theorem bt_any : bootBuiltins "any" = some (.builtin "any") := by kernel_rfl
theorem bt_abs : bootBuiltins "abs" = some (.builtin "abs") := by kernel_rfl
theorem bt_max : bootBuiltins "max" = some (.builtin "max") := by kernel_rfl
theorem bt_min : bootBuiltins "min" = some (.builtin "min") := by kernel_rfl
theorem bt_sum : bootBuiltins "sum" = some (.builtin "sum") := by kernel_rfl
theorem bt_isinstance : bootBuiltins "isinstance" = some (.builtin "isinstance") := by kernel_rfl
theorem bt_sorted : bootBuiltins "sorted" = some (.builtin "sorted") := by kernel_rfl
theorem bt_repr : bootBuiltins "repr" = some (.builtin "repr") := by kernel_rfl
theorem bt_zip : bootBuiltins "zip" = some (.type "zip") := by kernel_rfl
theorem bt_enumerate : bootBuiltins "enumerate" = some (.type "enumerate") := by kernel_rfl
end DL
/-! DL7: data that is equal to itself; the law's own promise; the end. -/
namespace DL
open PySem L2
/-! ### what may be compared -/
def okL (n : Nat) (d : D) : Prop := ∃ p, pd d = some p ∧ p.canLay0 = true ∧ p.depth ≤ n
theorem okL.up {n m : Nat} {d : D} (h : okL n d) (e : n ≤ m) : okL m d := by
  obtain ⟨p, h1, h2, h3⟩ := h
  exact ⟨p, h1, h2, Nat.le_trans h3 e⟩
theorem okL_int (i : Int) : okL 0 (.int i) := ⟨_, rfl, rfl, Nat.le_refl _⟩
theorem okL_bl (b : Bool) : okL 0 (.bl b) := ⟨_, rfl, rfl, Nat.le_refl _⟩
theorem okL_non : okL 0 .non := ⟨_, rfl, rfl, Nat.le_refl _⟩
theorem okL_all {n : Nat} : ∀ {l : List D}, (∀ x ∈ l, okL n x) → ∃ ps, pdA l = some ps ∧ PyData.canLayAll0 ps = true ∧ PyData.depthAll ps ≤ n
  | [], _ => ⟨[], rfl, rfl, Nat.zero_le _⟩
  | d :: l, h => by
    obtain ⟨p, h1, h2, h3⟩ := h d (by simp)
    obtain ⟨ps, k1, k2, k3⟩ := okL_all (l := l) fun x hx => h x (by simp [hx])
    refine ⟨p :: ps, ?_, ?_, ?_⟩
    · unfold pdA
      rw [h1, k1]
    · show (PyData.canLay0 p && PyData.canLayAll0 ps) = true
      rw [h2, k2]
      rfl
    · show max (PyData.depth p) (PyData.depthAll ps) ≤ n
      omega
theorem okL_tup {n : Nat} {l : List D} (h : ∀ x ∈ l, okL n x) : okL (n + 1) (.tup l) := by
  obtain ⟨ps, k1, k2, k3⟩ := okL_all h
  refine ⟨.tuple ps, ?_, k2, Nat.succ_le_succ k3⟩
  unfold pd
  rw [k1]
  rfl
theorem okL_lst {n : Nat} {l : List D} (h : ∀ x ∈ l, okL n x) : okL (n + 1) (.lst l) := by
  obtain ⟨ps, k1, k2, k3⟩ := okL_all h
  refine ⟨.list ps, ?_, k2, Nat.succ_le_succ k3⟩
  unfold pd
  rw [k1]
  rfl
theorem okL_ints (l : List Int) : okL 1 (.tup (l.map .int)) := okL_tup fun x hx => by
  obtain ⟨i, _, rfl⟩ := List.mem_map.mp hx
  exact okL_int i
theorem okL_intl (l : List Int) : okL 1 (.lst (l.map .int)) := okL_lst fun x hx => by
  obtain ⟨i, _, rfl⟩ := List.mem_map.mp hx
  exact okL_int i
theorem okD_of {n : Nat} {d : D} (h : okL n d) (e : n ≤ 64) : okD d := by
  obtain ⟨p, h1, h2, h3⟩ := h
  unfold okD
  rw [h1]
  show (p.canLay0 && decide (p.depth ≤ 64)) = true
  rw [h2, decide_eq_true (Nat.le_trans h3 e)]
  rfl
theorem eqD_refl {n : Nat} {d : D} (h : okL n d) : eqD d d = true := by
  obtain ⟨p, h1, h2, _⟩ := h
  unfold eqD
  rw [h1]
  exact SeqAt.eqv_refl p h2
theorem okD_int (i : Int) : okD (.int i) := okD_of (okL_int i) (by decide)
theorem okD_bl (b : Bool) : okD (.bl b) := okD_of (okL_bl b) (by decide)
theorem okD_non : okD .non := okD_of okL_non (by decide)
theorem eqD_int (i j : Int) : eqD (.int i) (.int j) = (i == j) := by
  show PyData.eqv (.int i) (.int j) = _
  simp [PyData.eqv]
theorem eqD_bl (i j : Bool) : eqD (.bl i) (.bl j) = (i == j) := by
  show PyData.eqv (.bool i) (.bool j) = _
  simp [PyData.eqv]
/-- != of equal data -/
theorem ne_same {n : Nat} {d : D} {q : D → Prop} (h : okL n d) (e : n ≤ 64) (z : q (.bl false)) : dNe d d q := by
  refine ⟨okD_of h e, okD_of h e, ?_⟩
  rw [eqD_refl h]
  exact z
theorem eq_same {n : Nat} {d : D} {q : D → Prop} (h : okL n d) (e : n ≤ 64) (z : q (.bl true)) : dEq d d q := by
  refine ⟨okD_of h e, okD_of h e, ?_⟩
  rw [eqD_refl h]
  exact z

/-! ### the law's promise, the end -/
def sLawD : FS := fun ds _ q => ∃ ns : List Int, ds = [.scr ns] ∧ ns.length ≤ 63 ∧ q (.bl true)
theorem sp_law {K : PySem.W.Frag} {H : Hp} {a : Addr} {ns : List Int} (hl : ns.length ≤ 63) (h : SqL K H a (ns.map V.int)) : spOf K 1 sLawD [.ref a] H (fun v _ => v = .bl true) fun _ _ _ => False := by
  refine ⟨H, [.scr ns], fun _ => False, fun d => d = .bl true, rfl, Same.refl H, .one (.scr h), ⟨ns, rfl, hl, rfl⟩, fun x d F' H' _ r e => ?_, EL.no⟩
  subst e
  cases r
  rfl
open PySem.Spec PyProof.Rows
theorem walkD {l : PySem.W.OpenLaw} {k : Nat} {x : Str} {q : Program} {loose : List Str} {XP : (Str → Option Value) → Heap → Prop} {YP : World → Heap → Prop} {d : DefRec} {K : Params → PySem.W.Frag} (hn : l.most = some 63) (hdf : d.params.defaults = []) (hr : Room k callerA)
    (hY : ∀ (w : World) (h : Heap), YP w h → (K w.params).In h)
    (F : ∀ (w : World) (mg : Str → Option Value) (fa : Addr) (h : Heap), (K w.params).In h → h.Ns mainGlobals mg → mg d.name = some (.ref fa) →
      ∃ fd : FuncData, (∀ (s : Shared) (u : Value), BindsTo s fd ⟨[u], []⟩ [(x, u)]) ∧ ∀ base : Heap, (K w.params).In base → base.Ns mainGlobals mg → FnOk l.prog w (K w.params) mg base (L2.CX l.prog w) k fa fd [x] (spOf (K w.params) 1 sLawD)) :
    PySem.W.WalkO q loose XP YP l.row.toRowW d [] (fun f vs => PySem.call f vs) :=
  L2.walk_of (n := 63) (k := k) (x := x) (CX := fun w => L2.CX l.prog w) (sp := fun w => spOf (K w.params) 1 sLawD) hn (by decide) hdf hr hY F (fun w H a ns hl _ hS => sp_law hl hS) fun _ _ _ _ _ ⟨_, _, _, _, _, _, _, _, _, _, _, _, h⟩ => h
end DL
namespace DL
/-! ### comprehensions and loops that are plain -/
theorem comp_ok {α : Type} {c : α → D} {g : D → EV → (EV → Prop) → Prop} {wt : WT} {we : WE} {ew : EV} {er : ER} {q : List D → Prop} {ev : α → EV} {p : α → Bool} {f : α → D} : ∀ {l : List α} {acc : List D}, (∀ x ∈ l, ∀ Q : EV → Prop, Q (ev x) → g (c x) ew Q) → (∀ x ∈ l, ∀ Q : Bool → Prop, Q (p x) → wt (ev x) er Q) →
    (∀ x ∈ l, p x = true → ∀ Q : D → Prop, Q (f x) → we (ev x) er Q) → acc.length + l.length ≤ PySem.sizeLine → q (acc ++ (l.filter p).map f) → wComp g wt we ew er q (l.map c) acc
  | [], acc, _, _, _, _, z => by
    simp at z
    exact z
  | x :: l, acc, h1, h2, h3, h4, z => by
    refine h1 x (by simp) _ (h2 x (by simp) _ ⟨fun e => h3 x (by simp) e _ ⟨?_, ?_⟩, fun e => ?_⟩)
    · rw [List.length_cons] at h4
      omega
    · refine comp_ok (ev := ev) (p := p) (f := f) (fun y hy => h1 y (by simp [hy])) (fun y hy => h2 y (by simp [hy])) (fun y hy => h3 y (by simp [hy])) ?_ ?_
      · rw [List.length_append]
        rw [List.length_cons] at h4
        show acc.length + 1 + l.length ≤ _
        omega
      · rw [List.filter_cons, if_pos e] at z
        simpa using z
    · refine comp_ok (ev := ev) (p := p) (f := f) (fun y hy => h1 y (by simp [hy])) (fun y hy => h2 y (by simp [hy])) (fun y hy => h3 y (by simp [hy])) ?_ ?_
      · rw [List.length_cons] at h4
        omega
      · rw [List.filter_cons, if_neg (by rw [e]; exact Bool.false_ne_true)] at z
        exact z
theorem comp_map {α : Type} {c : α → D} {g : D → EV → (EV → Prop) → Prop} {we : WE} {ew : EV} {er : ER} {q : List D → Prop} {ev : α → EV} {f : α → D} {l : List α} (h1 : ∀ x ∈ l, ∀ Q : EV → Prop, Q (ev x) → g (c x) ew Q)
    (h3 : ∀ x ∈ l, ∀ Q : D → Prop, Q (f x) → we (ev x) er Q) (h4 : l.length ≤ PySem.sizeLine) (z : q (l.map f)) : wComp g wYes we ew er q (l.map c) [] :=
  comp_ok (p := fun _ => true) (ev := ev) (f := f) h1 (fun _ _ _ h => h) (fun x hx _ => h3 x hx) (by simpa using h4) (by
    have e : l.filter (fun _ => true) = l := List.filter_eq_self.mpr fun _ _ => rfl
    rw [List.nil_append, e]
    exact z)
theorem rngD_eq (lo : Int) (n : Nat) : rngD lo n = (List.range' 0 n).map fun (i : Nat) => D.int (lo + i) := by
  unfold rngD
  rw [List.range_eq_range']
theorem bools_map {α : Type} (f : α → Bool) : ∀ l : List α, bools (l.map fun x => D.bl (f x)) = some (l.map f)
  | [] => rfl
  | x :: l => by
    rw [List.map_cons]
    unfold bools
    rw [bools_map f l]
    rfl
theorem all_map {α : Type} (f : α → Bool) (l : List α) (q : D → Prop) (h : q (.bl (l.all f))) : lAll (l.map fun x => D.bl (f x)) q := by
  unfold lAll
  rw [bools_map]
  simpa [List.all_map] using h
theorem any_map {α : Type} (f : α → Bool) (l : List α) (q : D → Prop) (h : q (.bl (l.any f))) : lAny (l.map fun x => D.bl (f x)) q := by
  unfold lAny
  rw [bools_map]
  simpa [List.any_map] using h
theorem atD_nat {α : Type} {xs : List α} {n : Nat} : atD xs (n : Int) = xs[n]? := by
  unfold atD L2.ixN
  by_cases h : n < xs.length
  · simp [h]
  · simp [h]
theorem atD_last {α : Type} {xs : List α} {x : α} : atD (xs ++ [x]) (-1) = some x := by
  have e : L2.ixN (xs ++ [x]).length (-1) = some xs.length := by
    unfold L2.ixN
    rw [if_neg (by decide), if_pos (by simp; omega)]
    simp
    omega
  unfold atD
  rw [e]
  simp
theorem atD_last2 {α : Type} {xs : List α} {x y : α} : atD (xs ++ [y, x]) (-2) = some y := by
  have e : L2.ixN (xs ++ [y, x]).length (-2) = some xs.length := by
    unfold L2.ixN
    rw [if_neg (by decide), if_pos (by simp; omega)]
    simp
    omega
  unfold atD
  rw [e]
  simp
theorem cutD_to {α : Type} {xs : List α} {n : Nat} : cutD xs none (some (n : Int)) = xs.take n := by
  unfold cutD
  rw [HT.sIx_nat, HT.sIx_none]
  simp
theorem atD_0 {α : Type} {a : α} {l : List α} : atD (a :: l) 0 = some a := atD_nat (n := 0)
theorem atD_1 {α : Type} {a b : α} {l : List α} : atD (a :: b :: l) 1 = some b := atD_nat (n := 1)
theorem atD_2 {α : Type} {a b c : α} {l : List α} : atD (a :: b :: c :: l) 2 = some c := atD_nat (n := 2)
theorem atD_3 {α : Type} {a b c d : α} {l : List α} : atD (a :: b :: c :: d :: l) 3 = some d := atD_nat (n := 3)
theorem all_yes {α : Type} (l : List α) : l.all (fun _ => true) = true := List.all_eq_true.mpr fun _ _ => rfl
/-! ### isinstance over own classes, from their lines of descent -/
def mroL (ups : List PySem.Addr) (tys : List String) : List PySem.Value := ups.map .ref ++ tys.map .type
structure OwnM (K : PySem.W.Frag) (C : PySem.Addr) (ups : List PySem.Addr) (tys : List String) : Prop where
  ci : ∃ cd, PySem.W.clsIn K C = some cd ∧ cd.mro = mroL ups tys
  me : ups.head? = some C
  ob : "object" ∈ tys
  no : ∀ T ∈ bts, T ∉ tys
  tp : PySem.W.typeIn K (.ref C) = some (.type "type")
def cdOf (cs : List (PySem.Addr × List PySem.Addr)) : CtxD where
  own := fun C => (cs.lookup C).isSome
  sub := fun C D => match cs.lookup C with
    | some up => if (cs.lookup D).isSome = true then some (up.contains D) else none
    | none => none
section
open PySem
variable {K : PySem.W.Frag} {C D : Addr} {ups upd : List Addr} {tys tyd : List String}
theorem mroL_ref : (mroL ups tys).contains (.ref D) = ups.contains D := by
  unfold mroL
  rw [Bool.eq_iff_iff, List.contains_iff_mem, List.contains_iff_mem, List.mem_append, List.mem_map, List.mem_map]
  constructor
  · rintro (⟨a, h, e⟩ | ⟨a, _, e⟩)
    · cases e
      exact h
    · cases e
  · exact fun h => .inl ⟨D, h, rfl⟩
theorem mroL_ty {T : String} : (mroL ups tys).contains (.type T) = tys.contains T := by
  unfold mroL
  rw [Bool.eq_iff_iff, List.contains_iff_mem, List.contains_iff_mem, List.mem_append, List.mem_map, List.mem_map]
  constructor
  · rintro (⟨a, _, e⟩ | ⟨a, h, e⟩)
    · cases e
    · cases e
      exact h
  · exact fun h => .inr ⟨T, h, rfl⟩
theorem OwnM.mro (h : OwnM K C ups tys) (b : Value) : PySem.W.mroIn K C b = some ((mroL ups tys).contains b) := by
  obtain ⟨cd, e, e2⟩ := h.ci
  have ne : (mroL ups tys).isEmpty = false := by
    have := h.me
    cases ups with
    | nil => cases this
    | cons a l => rfl
  unfold PySem.W.mroIn
  rw [e, Option.bind_some, e2, ne]
  rfl
theorem OwnM.object (h : OwnM K C ups tys) : PySem.W.mroIn K C (.type "object") = some true := by
  rw [h.mro, mroL_ty]
  exact congrArg some (List.contains_iff_mem.mpr h.ob)
theorem OwnM.up (h : OwnM K C ups tys) {T : String} (hT : T ∈ bts) : PySem.W.kitOne K (.ref C) (.type T) = some false := by
  have e : PySem.W.kitMeta T = true := by
    have hT := hT
    unfold bts at hT
    simp only [List.mem_cons, List.not_mem_nil, or_false] at hT
    rcases hT with rfl | rfl | rfl | rfl | rfl | rfl | rfl | rfl | rfl | rfl | rfl <;> kernel_rfl
  unfold PySem.W.kitOne
  rw [if_neg (by intro z; cases (beq_iff_eq.mp z))]
  show (if PySem.W.kitMeta T = true then PySem.W.subIn K (.ref C) (.type T) else none) = _
  rw [if_pos e]
  show PySem.W.mroIn K C (.type T) = _
  rw [h.mro, mroL_ty]
  have := h.no T hT
  simpa using this
theorem OwnM.dn (h : OwnM K C ups tys) {T : String} (hT : T ∈ bts) : PySem.W.kitOne K (.type T) (.ref C) = some false := by
  obtain ⟨cd, e, _⟩ := h.ci
  unfold PySem.W.kitOne
  rw [if_neg (by intro z; cases (beq_iff_eq.mp z))]
  show (if ((PySem.W.clsIn K C).isSome && PySem.W.typeIn K (.ref C) == some (.type "type")) = true then PySem.W.subIn K (.type T) (.ref C) else none) = _
  rw [e, h.tp, if_pos (by simp)]
  unfold bts at hT
  simp only [List.mem_cons, List.not_mem_nil, or_false] at hT
  rcases hT with rfl | rfl | rfl | rfl | rfl | rfl | rfl | rfl | rfl | rfl | rfl <;> kernel_rfl
theorem OwnM.sub (h : OwnM K C ups tys) (g : OwnM K D upd tyd) : PySem.W.kitOne K (.ref C) (.ref D) = some (ups.contains D) := by
  obtain ⟨cd, e, _⟩ := g.ci
  unfold PySem.W.kitOne
  by_cases z : C = D
  · subst z
    rw [if_pos (by simp)]
    have : C ∈ ups := List.mem_of_mem_head? h.me
    rw [List.contains_iff_mem.mpr this]
  · rw [if_neg (by intro y; cases (beq_iff_eq.mp y); exact z rfl)]
    show (if ((PySem.W.clsIn K D).isSome && PySem.W.typeIn K (.ref D) == some (.type "type")) = true then PySem.W.subIn K (.ref C) (.ref D) else none) = _
    rw [e, g.tp, if_pos (by simp)]
    show PySem.W.mroIn K C (.ref D) = _
    rw [h.mro, mroL_ref]
theorem lookup_in {cs : List (Addr × List Addr)} {u : List Addr} (h : cs.lookup C = some u) : (C, u) ∈ cs := by
  induction cs with
  | nil => cases h
  | cons p cs ih =>
    obtain ⟨a, v⟩ := p
    rw [List.lookup_cons] at h
    cases e : C == a with
    | true =>
      rw [e] at h
      cases h
      rw [beq_iff_eq.mp e]
      exact List.mem_cons_self
    | false =>
      rw [e] at h
      exact List.mem_cons_of_mem _ (ih h)
theorem tyOk_of {cs : List (Addr × List Addr)} (h : ∀ p ∈ cs, OwnC K p.1 ∧ ∃ tys, OwnM K p.1 p.2 tys) : TyOk K (cdOf cs) := by
  have get : ∀ C, (cdOf cs).own C = true → ∃ u, cs.lookup C = some u := fun C e => Option.isSome_iff_exists.mp e
  refine ⟨fun C e => ?_, fun C e T hT => ?_, fun C e T hT => ?_, fun C D b e => ?_⟩
  · obtain ⟨u, e⟩ := get C e
    exact (h _ (lookup_in e)).1
  · obtain ⟨u, e⟩ := get C e
    obtain ⟨_, tys, m⟩ := h _ (lookup_in e)
    exact m.up hT
  · obtain ⟨u, e⟩ := get C e
    obtain ⟨_, tys, m⟩ := h _ (lookup_in e)
    exact m.dn hT
  · unfold cdOf at e
    have e : (match cs.lookup C with | some up => if (cs.lookup D).isSome = true then some (up.contains D) else none | none => none) = some b := e
    cases e1 : cs.lookup C with
    | none =>
      rw [e1] at e
      cases e
    | some u =>
      rw [e1] at e
      have e : (if (cs.lookup D).isSome = true then some (u.contains D) else none) = some b := e
      split at e
      · rename_i z
        obtain ⟨v, e2⟩ := Option.isSome_iff_exists.mp z
        obtain ⟨_, t1, m1⟩ := h _ (lookup_in e1)
        obtain ⟨_, t2, m2⟩ := h _ (lookup_in e2)
        refine ⟨?_, (m1.sub m2).trans e⟩
        show (cs.lookup C).isSome = true
        rw [e1]
        rfl
      · cases e
end
end DL
/-! DLE: == and != of lists and tuples whose items may be instances with an own __eq__ (which may change the state). -/
namespace PySem.SeqAt
open AutoSeq1 (wpAny_loadPart')
open MeetsSeq MeetsSeq2 MeetsSeq3 SeqRoads2
section
variable {prog : Program} {w : World}
/-- the two lists as they stand in a state -/
def TwoL (T : String) (l b : Addr) (V2 : Nat → Value → Value → Prop) (N M : Nat) (s : Shared) : Prop :=
  ∃ (items items2 : Array Value) (n n2 : Nat) (dd dd2 : Option Addr) (sl sl2 : Array (Option Value)), s.heap.get? l = some { cls := .type T, dict := dd, data := .seq items n, slots := sl } ∧
    s.heap.get? b = some { cls := .type T, dict := dd2, data := .seq items2 n2, slots := sl2 } ∧ items.size = N ∧ items2.size = M ∧ ∀ j (h1 : j < items.size) (h2 : j < items2.size), V2 j items[j] items2[j]
/-- comparing two values, in a state of St, gives b and a state of St -/
def EqJ (prog : Program) (w : World) (A : Around) (St : Shared → Prop) (v u : Value) (b : Bool) : Prop := ∀ (s : Shared) (E : Value → Shared → Prop) (Q : Bool → Shared → Prop), St s → (∀ s', St s' → Q b s') → wpAny (model prog w) A (eqBool v u) Q E s
theorem eq_loopJ (l b : Addr) (N : Nat) (e : Nat → Bool) (V2 : Nat → Value → Value → Prop) (St : Shared → Prop) (hSt : ∀ s, St s → TwoL "list" l b V2 N N s) (ne : Bool) (k : Nat) :
    ∀ i : Nat, N - i = k → MeetsIn prog w (Builtin.«list.__eq__.loop» ⟨[.ref l, .ref b, rawInt i, rawInt (if ne then 3 else 2)], []⟩)
      (fun A R s => St s ∧ (∀ j v u, j < N → V2 j v u → EqJ prog w A.in1 St v u (e j)) ∧
        ∀ s', St s' → R (.ok (.ret (.bool (xor ne (((List.range N).drop i).all e))))) s') := by
  induction k with
  | zero =>
    intro i hk A R s h
    obtain ⟨hs, he, h⟩ := h
    obtain ⟨items, items2, n, n2, dd, dd2, sl, sl2, hl, hb, z1, z2, hv⟩ := hSt s hs
    obtain ⟨hp, g, d, tk, os⟩ := s
    have hi1 : items[((i : Nat) : Int).toNat]? = none := by simp; omega
    have hi2 : items2[((i : Nat) : Int).toNat]? = none := by simp; omega
    have hd : (List.range N).drop i = [] := by simp; omega
    rw [hd] at h
    have h := h _ hs
    cases ne with
    | false =>
      wp_walk using wpAny_loadPart' hl, wpAny_loadPart' hb
      rw [hi1, hi2]
      wp_walk using wpAny_loadPart' hl, wpAny_loadPart' hb
      show R (.ok (.ret (.bool (items.size == items2.size)))) _
      rw [z1, z2]
      simpa using h
    | true =>
      wp_walk using wpAny_loadPart' hl, wpAny_loadPart' hb
      rw [hi1, hi2]
      wp_walk using wpAny_loadPart' hl, wpAny_loadPart' hb
      show R (.ok (.ret (.bool (items.size != items2.size)))) _
      rw [z1, z2]
      simpa using h
  | succ k ih =>
    intro i hk A R s h
    obtain ⟨hs, he, h⟩ := h
    obtain ⟨items, items2, n, n2, dd, dd2, sl, sl2, hl, hb, z1, z2, hv⟩ := hSt s hs
    obtain ⟨hp, g, d, tk, os⟩ := s
    have hlt : i < items.size := by omega
    have hlt2 : i < items2.size := by omega
    have hi1 : items[((i : Nat) : Int).toNat]? = some items[i] := by simp [hlt]
    have hi2 : items2[((i : Nat) : Int).toNat]? = some items2[i] := by simp [hlt2]
    have hd : (List.range N).drop i = i :: (List.range N).drop (i + 1) := by
      have : i < (List.range N).length := by simp; omega
      rw [List.drop_eq_getElem_cons this]
      simp
    have hc : ((i : Int) + 1) = ((i + 1 : Nat) : Int) := by push_cast; rfl
    rw [hd, List.all_cons] at h
    cases ne with
    | false =>
      wp_walk using wpAny_loadPart' hl, wpAny_loadPart' hb
      rw [hi1, hi2]
      refine wpAny_bind (he i _ _ (by omega) (hv i hlt hlt2) _ _ _ hs fun s' hs' => ?_)
      cases hb' : e i with
      | true =>
        rw [hb'] at h
        wp_walk
        rw [hc]
        exact ⟨plainId_quiet plain_eq_loop _, codeAny_builtin entry_eq_loop (by
          rw [Around.under_plainId plain_eq_loop _]
          exact ih (i + 1) (by omega) A R _ ⟨hs', he, fun s2 h2 => by simpa using h s2 h2⟩)⟩
      | false =>
        rw [hb'] at h
        have h := h _ hs'
        obtain ⟨it, it2, n', n2', dd', dd2', sl', sl2', hl', hb2, y1, y2, hv'⟩ := hSt s' hs'
        obtain ⟨hp', g', d', tk', os'⟩ := s'
        have hj1 : it[((i : Nat) : Int).toNat]? = some it[i] := by simp
        have hj2 : it2[((i : Nat) : Int).toNat]? = some it2[i] := by simp
        wp_walk using wpAny_loadPart' hl', wpAny_loadPart' hb2
        rw [hj1, hj2]
        wp_walk
        simpa using h
    | true =>
      wp_walk using wpAny_loadPart' hl, wpAny_loadPart' hb
      rw [hi1, hi2]
      refine wpAny_bind (he i _ _ (by omega) (hv i hlt hlt2) _ _ _ hs fun s' hs' => ?_)
      cases hb' : e i with
      | true =>
        rw [hb'] at h
        wp_walk
        rw [hc]
        exact ⟨plainId_quiet plain_eq_loop _, codeAny_builtin entry_eq_loop (by
          rw [Around.under_plainId plain_eq_loop _]
          exact ih (i + 1) (by omega) A R _ ⟨hs', he, fun s2 h2 => by simpa using h s2 h2⟩)⟩
      | false =>
        rw [hb'] at h
        have h := h _ hs'
        obtain ⟨it, it2, n', n2', dd', dd2', sl', sl2', hl', hb2, y1, y2, hv'⟩ := hSt s' hs'
        obtain ⟨hp', g', d', tk', os'⟩ := s'
        have hj1 : it[((i : Nat) : Int).toNat]? = some it[i] := by simp
        have hj2 : it2[((i : Nat) : Int).toNat]? = some it2[i] := by simp
        wp_walk using wpAny_loadPart' hl', wpAny_loadPart' hb2
        rw [hj1, hj2]
        wp_walk
        simpa using h
theorem list_eqJ (l b : Addr) (N M : Nat) (e : Nat → Bool) (V2 : Nat → Value → Value → Prop) (St : Shared → Prop) (hSt : ∀ s, St s → TwoL "list" l b V2 N M s) :
    MeetsIn prog w (Builtin.«list.__eq__» ⟨[.ref l, .ref b], []⟩)
      (fun A R s => St s ∧ (∀ j v u, j < N → j < M → V2 j v u → EqJ prog w A.in1 St v u (e j)) ∧
        ∀ s', St s' → R (.ok (.ret (.bool (N == M && (List.range N).all e)))) s') := by
  intro A R s h
  obtain ⟨hs, he, h⟩ := h
  obtain ⟨items, items2, n, n2, dd, dd2, sl, sl2, hl, hb, z1, z2, hv⟩ := hSt s hs
  obtain ⟨hp, g, d, tk, os⟩ := s
  have f3 := AutoSeq1.sub_list_list
  by_cases hsz : N = M
  · subst hsz
    have hne : ¬ (items.size != items2.size) = true := by simp [z1, z2]
    wp_walk using wpAny_loadPart' hl, wpAny_loadPart' hb
    exact ⟨plainId_quiet plain_eq_loop _, codeAny_builtin entry_eq_loop (by
      rw [Around.under_plainId plain_eq_loop _]
      exact eq_loopJ l b N e V2 St hSt false _ 0 rfl A R _ ⟨hs, fun j v u h1 => he j v u h1 h1, fun s2 h2 => by simpa using h s2 h2⟩)⟩
  · have hne : (items.size != items2.size) = true := by simp [z1, z2, hsz]
    have h := h _ hs
    have e0 : (N == M) = false := by simpa using hsz
    rw [e0] at h
    wp_walk using wpAny_loadPart' hl, wpAny_loadPart' hb
    rw [show (CmpOp.Eq == CmpOp.NotEq) = false from rfl]
    simpa using h
theorem list_neJ (l b : Addr) (N M : Nat) (e : Nat → Bool) (V2 : Nat → Value → Value → Prop) (St : Shared → Prop) (hSt : ∀ s, St s → TwoL "list" l b V2 N M s) :
    MeetsIn prog w (Builtin.«list.__ne__» ⟨[.ref l, .ref b], []⟩)
      (fun A R s => St s ∧ (∀ j v u, j < N → j < M → V2 j v u → EqJ prog w A.in1 St v u (e j)) ∧
        ∀ s', St s' → R (.ok (.ret (.bool (!(N == M && (List.range N).all e))))) s') := by
  intro A R s h
  obtain ⟨hs, he, h⟩ := h
  obtain ⟨items, items2, n, n2, dd, dd2, sl, sl2, hl, hb, z1, z2, hv⟩ := hSt s hs
  obtain ⟨hp, g, d, tk, os⟩ := s
  have f3 := AutoSeq1.sub_list_list
  by_cases hsz : N = M
  · subst hsz
    have hne : ¬ (items.size != items2.size) = true := by simp [z1, z2]
    wp_walk using wpAny_loadPart' hl, wpAny_loadPart' hb
    exact ⟨plainId_quiet plain_eq_loop _, codeAny_builtin entry_eq_loop (by
      rw [Around.under_plainId plain_eq_loop _]
      exact eq_loopJ l b N e V2 St hSt true _ 0 rfl A R _ ⟨hs, fun j v u h1 => he j v u h1 h1, fun s2 h2 => by simpa using h s2 h2⟩)⟩
  · have hne : (items.size != items2.size) = true := by simp [z1, z2, hsz]
    have h := h _ hs
    have e0 : (N == M) = false := by simpa using hsz
    rw [e0] at h
    wp_walk using wpAny_loadPart' hl, wpAny_loadPart' hb
    first | (rw [show (CmpOp.NotEq == CmpOp.NotEq) = true from rfl]; simpa using h) | simpa using h
theorem tuple_eqJ (l b : Addr) (N M : Nat) (e : Nat → Bool) (V2 : Nat → Value → Value → Prop) (St : Shared → Prop) (hSt : ∀ s, St s → TwoL "tuple" l b V2 N M s) :
    MeetsIn prog w (Builtin.«tuple.__eq__» ⟨[.ref l, .ref b], []⟩)
      (fun A R s => St s ∧ (∀ j v u, j < N → j < M → V2 j v u → EqJ prog w A.in1 St v u (e j)) ∧
        ∀ s', St s' → R (.ok (.ret (.bool ((List.range (min N M)).all e && N == M)))) s') :=
  .of_wp fun A R s h => by
    obtain ⟨hs, he, h⟩ := h
    obtain ⟨items, items2, n, n2, dd, dd2, sl, sl2, hl, hb, z1, z2, hv⟩ := hSt s hs
    obtain ⟨hp, g, d, tk, os⟩ := s
    have f2 := AutoSeq1.sub_tuple_tuple
    have hZ : (items.toList.zip items2.toList).length = min N M := by simp [z1, z2]
    wp_walk using wpAny_loadPart' hl, wpAny_loadPart' hb, wpAny_forIn_list _ (fun rest b s' => b.1 = none ∧ St s' ∧ ∃ i, rest = (items.toList.zip items2.toList).drop i ∧
      ∀ s2, St s2 → R (.ok (.ret (.bool (((List.range (min N M)).drop i).all e && N == M)))) s2) _
    case turn =>
      rintro ⟨y, x⟩ rest b s' ⟨hb', hs', i, hz, hR⟩
      have hlt : i < (items.toList.zip items2.toList).length := by
        rcases Nat.lt_or_ge i (items.toList.zip items2.toList).length with h' | h'
        · exact h'
        · rw [List.drop_of_length_le h'] at hz; cases hz
      have hm : i < min N M := hZ ▸ hlt
      have h1 : i < items.size := by omega
      have h2 : i < items2.size := by omega
      rw [List.drop_eq_getElem_cons hlt] at hz
      injection hz with hyx hrest
      have hy : y = items[i] := by have := congrArg Prod.fst hyx; simpa using this
      have hx : x = items2[i] := by have := congrArg Prod.snd hyx; simpa using this
      subst hy hx
      have hd : (List.range (min N M)).drop i = i :: (List.range (min N M)).drop (i + 1) := by simp [List.drop_eq_getElem_cons, hm]
      rw [hd, List.all_cons] at hR
      refine wpAny_bind (he i _ _ (by omega) (by omega) (hv i h1 h2) _ _ _ hs' fun s3 hs3 => ?_)
      cases hy : e i with
      | true =>
        rw [hy] at hR
        wp_walk
        exact ⟨rfl, hs3, i + 1, hrest, fun s2 h2 => by simpa using hR s2 h2⟩
      | false =>
        rw [hy] at hR
        have hR := hR _ hs3
        wp_walk
        exact ⟨_, rfl, by simpa using hR⟩
    case fin =>
      rintro ⟨b1, b2⟩ s' ⟨hb', hs', i, hz, hR⟩
      simp only at hb'
      subst hb'
      have hge : min N M ≤ i := by
        rcases Nat.lt_or_ge i (items.toList.zip items2.toList).length with h' | h'
        · rw [List.drop_eq_getElem_cons h'] at hz; cases hz
        · exact hZ ▸ h'
      rw [List.drop_of_length_le (by simpa using hge)] at hR
      have hR := hR _ hs'
      wp_walk
      exact ⟨_, rfl, by simpa [Builtin.Tuple.tupleCompareSizes, z1, z2] using hR⟩
    case h =>
      exact ⟨rfl, hs, 0, rfl, fun s2 h2 => by simpa using h s2 h2⟩
theorem tuple_neJ (l b : Addr) (N M : Nat) (e : Nat → Bool) (V2 : Nat → Value → Value → Prop) (St : Shared → Prop) (hSt : ∀ s, St s → TwoL "tuple" l b V2 N M s) :
    MeetsIn prog w (Builtin.«tuple.__ne__» ⟨[.ref l, .ref b], []⟩)
      (fun A R s => St s ∧ (∀ j v u, j < N → j < M → V2 j v u → EqJ prog w A.in1 St v u (e j)) ∧
        ∀ s', St s' → R (.ok (.ret (.bool (!((List.range (min N M)).all e && N == M))))) s') :=
  .of_wp fun A R s h => by
    obtain ⟨hs, he, h⟩ := h
    obtain ⟨items, items2, n, n2, dd, dd2, sl, sl2, hl, hb, z1, z2, hv⟩ := hSt s hs
    obtain ⟨hp, g, d, tk, os⟩ := s
    have f2 := AutoSeq1.sub_tuple_tuple
    have hZ : (items.toList.zip items2.toList).length = min N M := by simp [z1, z2]
    wp_walk using wpAny_loadPart' hl, wpAny_loadPart' hb, wpAny_forIn_list _ (fun rest b s' => b.1 = none ∧ St s' ∧ ∃ i, rest = (items.toList.zip items2.toList).drop i ∧
      ∀ s2, St s2 → R (.ok (.ret (.bool (!(((List.range (min N M)).drop i).all e && N == M))))) s2) _
    case turn =>
      rintro ⟨y, x⟩ rest b s' ⟨hb', hs', i, hz, hR⟩
      have hlt : i < (items.toList.zip items2.toList).length := by
        rcases Nat.lt_or_ge i (items.toList.zip items2.toList).length with h' | h'
        · exact h'
        · rw [List.drop_of_length_le h'] at hz; cases hz
      have hm : i < min N M := hZ ▸ hlt
      have h1 : i < items.size := by omega
      have h2 : i < items2.size := by omega
      rw [List.drop_eq_getElem_cons hlt] at hz
      injection hz with hyx hrest
      have hy : y = items[i] := by have := congrArg Prod.fst hyx; simpa using this
      have hx : x = items2[i] := by have := congrArg Prod.snd hyx; simpa using this
      subst hy hx
      have hd : (List.range (min N M)).drop i = i :: (List.range (min N M)).drop (i + 1) := by simp [List.drop_eq_getElem_cons, hm]
      rw [hd, List.all_cons] at hR
      refine wpAny_bind (he i _ _ (by omega) (by omega) (hv i h1 h2) _ _ _ hs' fun s3 hs3 => ?_)
      cases hy : e i with
      | true =>
        rw [hy] at hR
        wp_walk
        exact ⟨rfl, hs3, i + 1, hrest, fun s2 h2 => by simpa using hR s2 h2⟩
      | false =>
        rw [hy] at hR
        have hR := hR _ hs3
        wp_walk
        exact ⟨_, rfl, by simpa using hR⟩
    case fin =>
      rintro ⟨b1, b2⟩ s' ⟨hb', hs', i, hz, hR⟩
      simp only at hb'
      subst hb'
      have hge : min N M ≤ i := by
        rcases Nat.lt_or_ge i (items.toList.zip items2.toList).length with h' | h'
        · rw [List.drop_eq_getElem_cons h'] at hz; cases hz
        · exact hZ ▸ h'
      rw [List.drop_of_length_le (by simpa using hge)] at hR
      have hR := hR _ hs'
      wp_walk
      exact ⟨_, rfl, by simpa [Builtin.Tuple.tupleCompareSizes, z1, z2, bne] using hR⟩
    case h =>
      exact ⟨rfl, hs, 0, rfl, fun s2 h2 => by simpa using h s2 h2⟩
end
end PySem.SeqAt
/-! DLG: == and != of data with instances inside, over data. -/
namespace DL
open PySem L2
mutual
def pl : D → Bool
  | .non => true
  | .bl _ => true
  | .int _ => true
  | .str _ => true
  | .ty _ => true
  | .tup l => plA l
  | .lst l => plA l
  | .ins _ fs => plF fs
  | .obj _ => false
  | .scr _ => false
  | .bag _ => false
def plA : List D → Bool
  | [] => true
  | d :: r => pl d && plA r
def plF : List (Str × D) → Bool
  | [] => true
  | (_, d) :: r => pl d && plF r
end
section
variable {X : Cx} {pins : List (Addr × Obj)} {σ : L2.St} {F H : Hp} {s : Shared}
theorem vals_fn : ∀ {xs ys : List V} {us : List Value}, Vals xs us → Vals ys us → xs = ys
  | _, _, _, .nil, .nil => rfl
  | _, _, _, .cons r t, .cons r2 t2 => by rw [RelV.inj r r2, vals_fn t t2]
theorem sqT_fn (I : Inv X pins σ H s) {a : Addr} {xs ys : List V} (h : SqT X.K H a xs) (g : SqT X.K H a ys) : xs = ys := by
  obtain ⟨i1, v1, ⟨o, ho, hc, n, hd⟩, _⟩ := I.tuple h
  obtain ⟨i2, v2, ⟨o2, ho2, hc2, n2, hd2⟩, _⟩ := I.tuple g
  rw [ho] at ho2
  cases ho2
  rw [hd] at hd2
  injection hd2 with e _
  have e : i1 = i2 := by simpa using congrArg Array.toList e
  subst e
  exact vals_fn v1 v2
theorem sqT_cls (I : Inv X pins σ H s) {a : Addr} {xs : List V} (h : SqT X.K H a xs) : ∃ o, s.heap.get? a = some o ∧ o.cls = .type "tuple" := by
  obtain ⟨i1, v1, ⟨o, ho, hc, n, hd⟩, _⟩ := I.tuple h
  exact ⟨o, ho, hc⟩
theorem sqT_lst (I : Inv X pins σ H s) {a : Addr} {xs ys : List V} (h : SqT X.K H a xs) (g : H a = some (.lst ys)) : False := by
  obtain ⟨o, ho, hc⟩ := sqT_cls I h
  obtain ⟨its, n, r, e, _⟩ := I.lst g
  rw [ho] at e
  cases e
  injection hc with h
  exact absurd h (by decide)
theorem sqT_ins (I : Inv X pins σ H s) {a C dx : Addr} {xs : List V} {fs : List (Str × V)} (h : SqT X.K H a xs) (g : H a = some (.ins C dx fs)) : False := by
  obtain ⟨o, ho, hc⟩ := sqT_cls I h
  have x : ObjOk X.prog X.w H s.heap a (.ins C dx fs) := I.hok a _ g
  obtain ⟨_, _, _, e, _⟩ := x
  rw [ho] at e
  cases e
  cases hc
mutual
theorem Rep.fn (I : Inv X pins σ H s) (sm : Same F H) : ∀ {x : V} {d e : D}, Rep X.K F x d → Rep X.K F x e → pl d = true → pl e = true → d = e
  | _, _, e, .non, r, p, q => by
    cases r
    rfl
  | _, _, e, .bl b, r, p, q => by
    cases r
    rfl
  | _, _, e, .int i, r, p, q => by
    cases r
    rfl
  | _, _, e, .str i, r, p, q => by
    cases r
    rfl
  | _, _, e, .ty i, r, p, q => by
    cases r
    rfl
  | _, _, e, .tup h1 h2, r, p, q => by
    cases r with
    | tup g1 g2 =>
      cases sqT_fn I (same_t sm h1) (same_t sm g1)
      rw [RepA.fn I sm h2 g2 p q]
    | lst g1 g2 => exact (sqT_lst I (same_t sm h1) (sm _ _ g1)).elim
    | ins g1 g2 => exact (sqT_ins I (same_t sm h1) (sm _ _ g1)).elim
    | obj _ => cases q
    | scr _ => cases q
    | bag _ => cases q
  | _, _, e, .lst h1 h2, r, p, q => by
    cases r with
    | tup g1 g2 => exact (sqT_lst I (same_t sm g1) (sm _ _ h1)).elim
    | lst g1 g2 =>
      rw [h1] at g1
      cases g1
      rw [RepA.fn I sm h2 g2 p q]
    | ins g1 g2 =>
      rw [h1] at g1
      cases g1
    | obj _ => cases q
    | scr _ => cases q
    | bag _ => cases q
  | _, _, e, .ins h1 h2, r, p, q => by
    cases r with
    | tup g1 g2 => exact (sqT_ins I (same_t sm g1) (sm _ _ h1)).elim
    | lst g1 g2 =>
      rw [h1] at g1
      cases g1
    | ins g1 g2 =>
      rw [h1] at g1
      cases g1
      rw [RepF.fn I sm h2 g2 p q]
    | obj _ => cases q
    | scr _ => cases q
    | bag _ => cases q
  | _, _, e, .obj _, r, p, q => by cases p
  | _, _, e, .scr _, r, p, q => by cases p
  | _, _, e, .bag _, r, p, q => by cases p
theorem RepA.fn (I : Inv X pins σ H s) (sm : Same F H) : ∀ {x : List V} {d e : List D}, RepA X.K F x d → RepA X.K F x e → plA d = true → plA e = true → d = e
  | _, _, _, .nil, .nil, _, _ => rfl
  | _, _, _, .cons h1 h2, .cons g1 g2, p, q => by
    have p' := Bool.and_eq_true_iff.mp p
    have q' := Bool.and_eq_true_iff.mp q
    rw [Rep.fn I sm h1 g1 p'.1 q'.1, RepA.fn I sm h2 g2 p'.2 q'.2]
theorem RepF.fn (I : Inv X pins σ H s) (sm : Same F H) : ∀ {x : List (Str × V)} {d e : List (Str × D)}, RepF X.K F x d → RepF X.K F x e → plF d = true → plF e = true → d = e
  | _, _, _, .nil, .nil, _, _ => rfl
  | _, _, _, .cons h1 h2, .cons g1 g2, p, q => by
    have p' := Bool.and_eq_true_iff.mp p
    have q' := Bool.and_eq_true_iff.mp q
    rw [Rep.fn I sm h1 g1 p'.1 q'.1, RepF.fn I sm h2 g2 p'.2 q'.2]
end
/-- what == of two data tells; T: the own classes with the meaning of their __eq__ -/
inductive EqG (A : CtxD) (T : List (Addr × FS)) : Nat → D → D → Bool → Prop
  | data {n : Nat} {d e : D} : okL 32 d → okL 32 e → EqG A T n d e (eqD d e)
  | own {n : Nat} {C : Addr} {fs : List (Str × D)} {e : D} {S : FS} {b : Bool} : (C, S) ∈ T → okEq A C e → S [.ins C fs, e] (fun _ => False) (fun z => z = .bl b) → (b = true ∨ (D.ins C fs ≠ e ∧ plF fs = true ∧ pl e = true)) → EqG A T n (.ins C fs) e b
  | tup {n : Nat} {l m : List D} {e : Nat → Bool} : (∀ j x y, l[j]? = some x → m[j]? = some y → EqG A T n x y (e j)) → EqG A T (n + 1) (.tup l) (.tup m) ((List.range (min l.length m.length)).all e && l.length == m.length)
  | lst {n : Nat} {l m : List D} {e : Nat → Bool} : (∀ j x y, l[j]? = some x → m[j]? = some y → EqG A T n x y (e j)) → EqG A T (n + 1) (.lst l) (.lst m) (l.length == m.length && (List.range l.length).all e)
theorem pd_eq (I : Inv X pins σ H s) (sm : Same F H) {x : V} {d e : D} {p q : PyData} (hd : Rep X.K F x d) (he : Rep X.K F x e) (h1 : pd d = some p) (h2 : pd e = some q) (c1 : p.canLay0 = true) (v : Value) (rv : RelV x v) : p = q := by
  obtain ⟨as, r1⟩ := Dp.reads I p x v (dp_of sm hd h1) rv
  obtain ⟨bs, r2⟩ := Dp.reads I q x v (dp_of sm he h2) rv
  exact SeqAt.Reads.unique p _ _ _ _ c1 r1 r2
theorem relV_ex (x : V) : ∃ v, RelV x v := by
  cases x with
  | non => exact ⟨_, rfl⟩
  | bl b => exact ⟨_, rfl⟩
  | int i => exact ⟨.int i 0, 0, rfl⟩
  | str i => exact ⟨.str i 0, 0, rfl⟩
  | byt i => exact ⟨.bytes i 0, 0, rfl⟩
  | flt i => exact ⟨.float i 0, 0, rfl⟩
  | ref a => exact ⟨_, rfl⟩
  | ty n => exact ⟨_, rfl⟩
theorem EqG.idem {A : CtxD} {T : List (Addr × FS)} {n : Nat} {d e : D} {b : Bool} (h : EqG A T n d e b) (I : Inv X pins σ H s) (sm : Same F H) : ∀ x, Rep X.K F x d → Rep X.K F x e → b = true := by
  induction h with
  | data h1 h2 =>
    intro x r1 r2
    obtain ⟨p, a1, a2, _⟩ := h1
    obtain ⟨q, b1, b2, _⟩ := h2
    obtain ⟨v, rv⟩ := relV_ex x
    have e := pd_eq I sm r1 r2 a1 b1 a2 v rv
    subst e
    unfold eqD
    rw [a1, b1]
    exact SeqAt.eqv_refl p a2
  | own h1 h2 h3 h4 =>
    intro x r1 r2
    rcases h4 with h4 | ⟨h4, h5, h6⟩
    · exact h4
    · exact absurd (Rep.fn I sm r1 r2 h5 h6) h4
  | @tup n l m e h ih =>
    intro x r1 r2
    cases r1 with
    | tup h1 h2 =>
      cases r2 with
      | tup g1 g2 =>
        cases sqT_fn I (same_t sm h1) (same_t sm g1)
        have hl : l.length = m.length := h2.len.symm.trans g2.len
        rw [hl, Nat.min_self, Bool.and_eq_true, List.all_eq_true]
        refine ⟨fun j hj => ?_, by simp⟩
        have hj := List.mem_range.mp hj
        obtain ⟨z, hz, rz⟩ := h2.getD (List.getElem?_eq_getElem (show j < l.length by omega))
        obtain ⟨y, hy, ry⟩ := g2.get hz
        exact ih j _ _ (List.getElem?_eq_getElem (show j < l.length by omega)) hy z rz ry
  | @lst n l m e h ih =>
    intro x r1 r2
    cases r1 with
    | lst h1 h2 =>
      cases r2 with
      | lst g1 g2 =>
        rw [h1] at g1
        cases g1
        have hl : l.length = m.length := h2.len.symm.trans g2.len
        rw [hl, Bool.and_eq_true, List.all_eq_true]
        refine ⟨by simp, fun j hj => ?_⟩
        have hj := List.mem_range.mp hj
        obtain ⟨z, hz, rz⟩ := h2.getD (List.getElem?_eq_getElem (show j < l.length by omega))
        obtain ⟨y, hy, ry⟩ := g2.get hz
        exact ih j _ _ (List.getElem?_eq_getElem (show j < l.length by omega)) hy z rz ry
/-- an own class's __eq__ as it was proved -/
def OwnE (X : Cx) (k : Nat) (C : Addr) (S : FS) : Prop := ∃ (g : Addr) (fd : FuncData) (k0 : Nat), k0 ≤ k ∧ PySem.W.findIn X.K (.ref C) "__eq__" = some (some (.ref g)) ∧ PySem.W.isFn X.K (.ref g) = true ∧ FnOk X.prog X.w X.K X.mg X.base (L2.CX X.prog X.w) k0 g fd ["self", "other"] (spOf X.K 2 S) ∧ Binds X.K fd ["self", "other"] []
theorem run_fnE {k : Nat} {g : Addr} {fd : FuncData} {sp : Sp} {Q : VK} {ps : List Str} {us : List Value} {vs : List V} {A : Around} (Fn : FnOk X.prog X.w X.K X.mg X.base (L2.CX X.prog X.w) k g fd ps sp) (hr : Room k A) (hA : A.frames = X.A.frames) (hb : Binds X.K fd ps [])
    (I : Inv X pins σ H s) (r : Vals vs us) (h : sp vs H Q E0) (E : Value → Shared → Prop) : wpAny (model X.prog X.w) A (call (.ref g) us) (EP X pins σ Q) E s := by
  have hl : (us ++ []).length = ps.length := by
    rw [List.append_nil, ← r.length]
    exact Fn.len _ _ _ _ h
  have e0 : Env0 X.prog X.w X.K X.mg X.base A X.stack s H := by
    have e := I.env0
    exact ⟨by rw [hA]; exact e.frames, e.mod, e.bs, e.bsz, e.funs, e.frf, e.hok, e.bare⟩
  have hb' := hb s us I.kIn hl
  rw [List.append_nil] at hb'
  refine wpAny_call (codeAny_mono (Fn.run A X.stack s H ⟨us, []⟩ us vs Q E0 hr e0 hb' r h) fun r s' hq => ?_)
  cases r with
  | error e =>
    obtain ⟨_, _, _, _, _, _, _, _, _, _, _, _, z⟩ := hq
    exact z.elim
  | ok fl =>
    cases fl with
    | ret u => exact I.after hq
    | next => exact False.elim hq
    | brk => exact False.elim hq
    | cont => exact False.elim hq
/-- one's own == at any depth -/
theorem own_run {k : Nat} {C : Addr} {S : FS} {A : CtxD} (ty : TyOk X.K A) (o : OwnE X k C S) {fs : List (Str × D)} {e : D} {b : Bool} (he : okEq A C e) (hS : S [.ins C fs, e] (fun _ => False) (fun z => z = .bl b)) (A' : Around) (hA : A'.frames = X.A.frames) (hr : Room k A')
    (I : Inv X pins σ H s) (sm : Same F H) {x y : V} {v u : Value} (rx : Rep X.K F x (.ins C fs)) (ry : Rep X.K F y e) (vx : RelV x v) (vy : RelV y u) (E Q : Value → Shared → Prop)
    (hQ : ∀ F' H' s', Inv X pins σ H' s' → Stp F F' H H' → Q (.bool b) s') : wpAny (model X.prog X.w) A' (richCompare .Eq v u) Q E s := by
  obtain ⟨g, fd, k0, hk0, hs, hf, Fn, hb⟩ := o
  cases rx with
  | @ins a _ dx xs _ h1 h2 =>
    cases (show v = Value.ref a from vx)
    obtain ⟨ok, nf⟩ := okEq_ok ty he
    obtain ⟨od, J⟩ := ins_inst I (sm _ _ h1)
    obtain ⟨m, hF⟩ := I.fr
    refine PySem.W.cmp_K (op := .Eq) (tb := tyD e) hr.units0 hF I.ok.mod.kin J (looks_ty I vy (tyx_of sm ry ok)) nf hs hf ?_
    refine wpAny_mono (run_fnE (us := [.ref a, u]) (vs := [.ref a, y]) (Q := fun z H' => ∃ F', Stp F F' H H' ∧ z = .bl b) Fn (hr.mono hk0) hA hb I (.cons rfl (.cons vy .nil)) ?_ E) (fun w s' z => ?_) fun _ _ x => x
    · refine ⟨F, [.ins C fs, e], fun _ => False, fun z => z = .bl b, rfl, sm, .cons (.ins h1 h2) (.cons ry .nil), hS, fun z d F' H' st r q => ?_, EL.no⟩
      subst q
      cases r
      exact ⟨F', st, rfl⟩
    · obtain ⟨z', H', I', rz, F', st, rfl⟩ := z
      cases rz
      exact hQ F' H' s' I' st
/-- the states behind F, H -/
def StX (X : Cx) (pins : List (Addr × Obj)) (σ : L2.St) (F H : Hp) (s : Shared) : Prop := ∃ F' H', Inv X pins σ H' s ∧ Stp F F' H H'
def V2X (xs ys : List V) (j : Nat) (v u : Value) : Prop := ∃ x y, xs[j]? = some x ∧ ys[j]? = some y ∧ RelV x v ∧ RelV y u
theorem vals_nth {xs : List V} {us : List Value} (r : Vals xs us) {j : Nat} (h : j < us.toArray.size) : ∃ x, xs[j]? = some x ∧ RelV x us.toArray[j] := by
  have hl := r.length
  have h' : j < us.length := by simpa using h
  obtain ⟨u, e, rv⟩ := r.get (List.getElem?_eq_getElem (show j < xs.length by omega))
  refine ⟨_, List.getElem?_eq_getElem (show j < xs.length by omega), ?_⟩
  rw [List.getElem?_eq_getElem h'] at e
  cases e
  simpa using rv
theorem twoL_list {a c : Addr} {xs ys : List V} (h1 : F a = some (.lst xs)) (h2 : F c = some (.lst ys)) (s' : Shared) (z : StX X pins σ F H s') : SeqAt.TwoL "list" a c (V2X xs ys) xs.length ys.length s' := by
  obtain ⟨F', H', I, st⟩ := z
  obtain ⟨i1, n1, r1, e1, _⟩ := I.lst (st.fh _ _ (st.ff _ _ h1))
  obtain ⟨i2, n2, r2, e2, _⟩ := I.lst (st.fh _ _ (st.ff _ _ h2))
  refine ⟨_, _, _, _, none, none, #[], #[], e1, e2, by simp [r1.length], by simp [r2.length], fun j q1 q2 => ?_⟩
  obtain ⟨x, a1, a2⟩ := vals_nth r1 q1
  obtain ⟨y, b1, b2⟩ := vals_nth r2 q2
  exact ⟨x, y, a1, b1, a2, b2⟩
theorem twoL_tup {a c : Addr} {xs ys : List V} (h1 : SqT X.K F a xs) (h2 : SqT X.K F c ys) (s' : Shared) (z : StX X pins σ F H s') : SeqAt.TwoL "tuple" a c (V2X xs ys) xs.length ys.length s' := by
  obtain ⟨F', H', I, st⟩ := z
  obtain ⟨i1, r1, ⟨⟨c1, d1, da1, sl1⟩, e1, k1, n1, w1⟩, _⟩ := I.tuple (same_t st.fh (same_t st.ff h1))
  obtain ⟨i2, r2, ⟨⟨c2, d2, da2, sl2⟩, e2, k2, n2, w2⟩, _⟩ := I.tuple (same_t st.fh (same_t st.ff h2))
  simp only at k1 w1 k2 w2
  subst k1 w1 k2 w2
  refine ⟨_, _, _, _, d1, d2, sl1, sl2, e1, e2, by simp [r1.length], by simp [r2.length], fun j q1 q2 => ?_⟩
  obtain ⟨x, a1, a2⟩ := vals_nth r1 q1
  obtain ⟨y, b1, b2⟩ := vals_nth r2 q2
  exact ⟨x, y, a1, b1, a2, b2⟩
theorem TwoL_is {T : String} {a c : Addr} {V2 : Nat → Value → Value → Prop} {N M : Nat} (h : SeqAt.TwoL T a c V2 N M s) : s.TypeIs (.ref a) T ∧ s.TypeIs (.ref c) T := by
  obtain ⟨_, _, _, _, _, _, _, _, e1, e2, _⟩ := h
  exact ⟨⟨_, e1, rfl⟩, ⟨_, e2, rfl⟩⟩
/-- two sequences compared: neq turns it -/
theorem lists_run (neq : Bool) {a c : Addr} {xs ys : List V} (h1 : F a = some (.lst xs)) (h2 : F c = some (.lst ys)) (A' : Around) (hu : A'.units < cLine) (e : Nat → Bool) (z : StX X pins σ F H s)
    (he : ∀ j v u, j < xs.length → j < ys.length → V2X xs ys j v u → SeqAt.EqJ X.prog X.w A'.in1 (StX X pins σ F H) v u (e j)) (E Q : Value → Shared → Prop)
    (hQ : ∀ s', StX X pins σ F H s' → Q (.bool (xor neq (xs.length == ys.length && (List.range xs.length).all e))) s') : wpAny (model X.prog X.w) A' (richCompare (if neq then .NotEq else .Eq) (.ref a) (.ref c)) Q E s := by
  obtain ⟨ta, tb⟩ := TwoL_is (twoL_list h1 h2 s z)
  cases neq with
  | false =>
    exact wpAny_richCompare_same_room (op := .Eq) ta tb PySem.F.slot_list_eq (call_meetsIn PySem.F.slot_list_eq ta PySem.F.entry_list_eq (PySem.F.args_list_eq_2 _ _) (SeqAt.list_eqJ a c xs.length ys.length e (V2X xs ys) (StX X pins σ F H) (twoL_list h1 h2))
      ⟨z, he, fun s' z' => show Value.bool _ ≠ Value.notImplemented ∧ Q (.bool _) s' from ⟨(fun x => nomatch x), by simpa using hQ s' z'⟩⟩) hu
  | true =>
    exact wpAny_richCompare_same_room (op := .NotEq) ta tb PySem.F.slot_list_ne (call_meetsIn PySem.F.slot_list_ne ta PySem.F.entry_list_ne (PySem.F.args_list_ne_2 _ _) (SeqAt.list_neJ a c xs.length ys.length e (V2X xs ys) (StX X pins σ F H) (twoL_list h1 h2))
      ⟨z, he, fun s' z' => show Value.bool _ ≠ Value.notImplemented ∧ Q (.bool _) s' from ⟨(fun x => nomatch x), by simpa using hQ s' z'⟩⟩) hu
theorem tups_run (neq : Bool) {a c : Addr} {xs ys : List V} (h1 : SqT X.K F a xs) (h2 : SqT X.K F c ys) (A' : Around) (hu : A'.units < cLine) (e : Nat → Bool) (z : StX X pins σ F H s)
    (he : ∀ j v u, j < xs.length → j < ys.length → V2X xs ys j v u → SeqAt.EqJ X.prog X.w A'.in1 (StX X pins σ F H) v u (e j)) (E Q : Value → Shared → Prop)
    (hQ : ∀ s', StX X pins σ F H s' → Q (.bool (xor neq ((List.range (min xs.length ys.length)).all e && xs.length == ys.length))) s') : wpAny (model X.prog X.w) A' (richCompare (if neq then .NotEq else .Eq) (.ref a) (.ref c)) Q E s := by
  obtain ⟨ta, tb⟩ := TwoL_is (twoL_tup h1 h2 s z)
  cases neq with
  | false =>
    exact wpAny_richCompare_same_room (op := .Eq) ta tb PySem.F.slot_tuple_eq (call_meetsIn PySem.F.slot_tuple_eq ta PySem.F.entry_tuple_eq (PySem.F.args_tuple_eq_2 _ _) (SeqAt.tuple_eqJ a c xs.length ys.length e (V2X xs ys) (StX X pins σ F H) (twoL_tup h1 h2))
      ⟨z, he, fun s' z' => show Value.bool _ ≠ Value.notImplemented ∧ Q (.bool _) s' from ⟨(fun x => nomatch x), by simpa using hQ s' z'⟩⟩) hu
  | true =>
    exact wpAny_richCompare_same_room (op := .NotEq) ta tb PySem.F.slot_tuple_ne (call_meetsIn PySem.F.slot_tuple_ne ta PySem.F.entry_tuple_ne (PySem.F.args_tuple_ne_2 _ _) (SeqAt.tuple_neJ a c xs.length ys.length e (V2X xs ys) (StX X pins σ F H) (twoL_tup h1 h2))
      ⟨z, he, fun s' z' => show Value.bool _ ≠ Value.notImplemented ∧ Q (.bool _) s' from ⟨(fun x => nomatch x), by simpa using hQ s' z'⟩⟩) hu
theorem eqBool_ref {A' : Around} {a : Addr} {u : Value} {E : Value → Shared → Prop} {Q : Bool → Shared → Prop} {b : Bool} (hs : Value.ref a = u → b = true) (hq : Value.ref a = u → Q b s) (h : wpAny (model X.prog X.w) A' (richCompare .Eq (.ref a) u) (fun v s' => ∃ c, v = .bool c ∧ Q c s') E s) :
    wpAny (model X.prog X.w) A' (eqBool (.ref a) u) Q E s := by
  unfold eqBool
  refine wpAny_holding ?_
  refine wpAny_ite_split (fun hab => ?_) (fun _ => ?_)
  · have e := eq_of_beq hab
    have q := hq e
    rw [hs e] at q
    exact wpAny_bind (wpAny_rule (wpAny_pure q))
  · refine wpAny_bind (wpAny_mono h (fun v s' z => ?_) fun _ _ x => x)
    obtain ⟨c, rfl, z⟩ := z
    exact wpAny_truthy_bool z
/-- comparing by == at any depth -/
theorem eqG_run {k : Nat} {A : CtxD} {T : List (Addr × FS)} (ty : TyOk X.K A) (hT : ∀ p ∈ T, OwnE X k p.1 p.2) {n : Nat} {d e : D} {b : Bool} (g : EqG A T n d e b) : ∀ (A' : Around), A'.frames = X.A.frames → Room (n + k) A' →
    ∀ (F H : Hp) (s : Shared), Inv X pins σ H s → Same F H → ∀ (x y : V) (v u : Value), Rep X.K F x d → Rep X.K F y e → RelV x v → RelV y u → ∀ (E : Value → Shared → Prop) (Q : Bool → Shared → Prop), (∀ s', StX X pins σ F H s' → Q b s') →
      wpAny (model X.prog X.w) A' (eqBool v u) Q E s := by
  induction g with
  | @data n d e h1 h2 =>
    intro A' hA hr F H s I sm x y v u rx ry vx vy E Q hQ
    obtain ⟨p, a1, a2, a3⟩ := h1
    obtain ⟨q, b1, b2, b3⟩ := h2
    obtain ⟨as, r1⟩ := Dp.reads I p x v (dp_of sm rx a1) vx
    obtain ⟨bs, r2⟩ := Dp.reads I q y u (dp_of sm ry b1) vy
    have hu := hr.un
    have e0 : eqD d e = PyData.eqv p q := by
      unfold eqD
      rw [a1, b1]
    rw [e0] at hQ
    exact SeqAt.eqAt_reads p q A' s v u as bs r1 r2 a2 b2 (by have := Nat.min_le_left p.depth q.depth; omega) _ _ E Q (hQ s ⟨F, H, I, Stp.refl sm⟩)
  | @own n C fs e S b h1 h2 h3 h4 =>
    intro A' hA hr F H s I sm x y v u rx ry vx vy E Q hQ
    have g : EqG A T n (.ins C fs) e b := .own h1 h2 h3 h4
    have rx0 := rx
    cases rx with
    | @ins a _ dx xs _ i1 i2 =>
      cases (show v = Value.ref a from vx)
      refine eqBool_ref (b := b) (fun e => ?_) (fun e => hQ s ⟨F, H, I, Stp.refl sm⟩) ?_
      · subst e
        cases RelV.inj vy (show RelV (.ref a) (Value.ref a) from rfl)
        exact g.idem I sm _ rx0 ry
      · exact own_run ty (hT _ h1) h2 h3 A' hA (hr.mono (Nat.le_add_left _ _)) I sm rx0 ry rfl vy E _ fun F' H' s' I' st => ⟨b, rfl, hQ s' ⟨F', H', I', st⟩⟩
  | @tup n l m e h ih =>
    intro A' hA hr F H s I sm x y v u rx ry vx vy E Q hQ
    have g : EqG A T (n + 1) (.tup l) (.tup m) _ := .tup h
    have rx0 := rx
    have ry0 := ry
    cases rx with
    | @tup a xs _ i1 i2 =>
      cases ry with
      | @tup c ys _ j1 j2 =>
        cases (show v = Value.ref a from vx)
        cases (show u = Value.ref c from vy)
        have z0 : StX X pins σ F H s := ⟨F, H, I, Stp.refl sm⟩
        have hr' : Room (n + k) A'.in1 := Room.in1 (by rw [show n + 1 + k = n + k + 1 by omega] at hr; exact hr)
        refine eqBool_ref (b := _) (fun e => ?_) (fun e => hQ s z0) ?_
        · cases e
          exact g.idem I sm _ rx0 ry0
        · refine tups_run false (F := F) (H := H) i1 j1 A' (by have := hr.un; omega) e z0 (fun j v u q1 q2 z => ?_) E _ fun s' z => ⟨_, rfl, ?_⟩
          · obtain ⟨x, y, e1, e2, r1, r2⟩ := z
            obtain ⟨dx, k1, rd⟩ := i2.get e1
            obtain ⟨dy, k2, re⟩ := j2.get e2
            intro s1 E1 Q1 z1 hq1
            obtain ⟨F1, H1, I1, st1⟩ := z1
            exact ih j dx dy k1 k2 A'.in1 hA hr' F1 H1 s1 I1 st1.fh x y v u (rd.mono st1.ff) (re.mono st1.ff) r1 r2 E1 Q1 fun s2 ⟨F2, H2, I2, st2⟩ => hq1 s2 ⟨F2, H2, I2, st1.trans st2⟩
          · have := hQ s' z
            rw [i2.len, j2.len]
            simpa using this
  | @lst n l m e h ih =>
    intro A' hA hr F H s I sm x y v u rx ry vx vy E Q hQ
    have g : EqG A T (n + 1) (.lst l) (.lst m) _ := .lst h
    have rx0 := rx
    have ry0 := ry
    cases rx with
    | @lst a xs _ i1 i2 =>
      cases ry with
      | @lst c ys _ j1 j2 =>
        cases (show v = Value.ref a from vx)
        cases (show u = Value.ref c from vy)
        have z0 : StX X pins σ F H s := ⟨F, H, I, Stp.refl sm⟩
        have hr' : Room (n + k) A'.in1 := Room.in1 (by rw [show n + 1 + k = n + k + 1 by omega] at hr; exact hr)
        refine eqBool_ref (b := _) (fun e => ?_) (fun e => hQ s z0) ?_
        · cases e
          exact g.idem I sm _ rx0 ry0
        · refine lists_run false (F := F) (H := H) i1 j1 A' (by have := hr.un; omega) e z0 (fun j v u q1 q2 z => ?_) E _ fun s' z => ⟨_, rfl, ?_⟩
          · obtain ⟨x, y, e1, e2, r1, r2⟩ := z
            obtain ⟨dx, k1, rd⟩ := i2.get e1
            obtain ⟨dy, k2, re⟩ := j2.get e2
            intro s1 E1 Q1 z1 hq1
            obtain ⟨F1, H1, I1, st1⟩ := z1
            exact ih j dx dy k1 k2 A'.in1 hA hr' F1 H1 s1 I1 st1.fh x y v u (rd.mono st1.ff) (re.mono st1.ff) r1 r2 E1 Q1 fun s2 ⟨F2, H2, I2, st2⟩ => hq1 s2 ⟨F2, H2, I2, st1.trans st2⟩
          · have := hQ s' z
            rw [i2.len, j2.len]
            simpa using this
/-- two sequences compared by == -/
inductive SqG (A : CtxD) (T : List (Addr × FS)) (n : Nat) : D → D → Bool → Prop
  | tup {l m : List D} {e : Nat → Bool} : (∀ j x y, l[j]? = some x → m[j]? = some y → EqG A T n x y (e j)) → SqG A T n (.tup l) (.tup m) ((List.range (min l.length m.length)).all e && l.length == m.length)
  | lst {l m : List D} {e : Nat → Bool} : (∀ j x y, l[j]? = some x → m[j]? = some y → EqG A T n x y (e j)) → SqG A T n (.lst l) (.lst m) (l.length == m.length && (List.range l.length).all e)
def rCmpG (K : PySem.W.Frag) (A : CtxD) (T : List (Addr × FS)) (n : Nat) (neq : Bool) : R2 := fun x y H Q => ∃ F d e b, Same F H ∧ Rep K F x d ∧ Rep K F y e ∧ SqG A T n d e b ∧ ∀ F' H', Stp F F' H H' → Q (.bl (xor neq b)) H'
theorem cmpG_run {k : Nat} {A : CtxD} {T : List (Addr × FS)} (ty : TyOk X.K A) (hT : ∀ p ∈ T, OwnE X k p.1 p.2) (n : Nat) (hr : Room (n + 1 + k) X.A) (neq : Bool) : OpR X (compareOp (if neq then .NotEq else .Eq)) (rCmpG X.K A T n neq) := by
  intro pins s σ H x y v u Q I vx vy h
  obtain ⟨F, d, e, b, sm, rx, ry, g, q⟩ := h
  have hr' : Room (n + k) X.A.in1 := Room.in1 (by rw [show n + 1 + k = n + k + 1 by omega] at hr; exact hr)
  have z0 : StX X pins σ F H s := ⟨F, H, I, Stp.refl sm⟩
  have cg : compareOp (if neq then CmpOp.NotEq else CmpOp.Eq) v u = richCompare (if neq then CmpOp.NotEq else CmpOp.Eq) v u := by cases neq <;> rfl
  rw [cg]
  cases g with
  | @tup l m e h =>
    cases rx with
    | @tup a xs _ i1 i2 =>
      cases ry with
      | @tup c ys _ j1 j2 =>
        cases (show v = Value.ref a from vx)
        cases (show u = Value.ref c from vy)
        refine tups_run neq (F := F) (H := H) i1 j1 X.A (by have := hr.un; omega) e z0 (fun j v u q1 q2 z => ?_) _ _ fun s' z => ?_
        · obtain ⟨x, y, e1, e2, r1, r2⟩ := z
          obtain ⟨dx, k1, rd⟩ := i2.get e1
          obtain ⟨dy, k2, re⟩ := j2.get e2
          intro s1 E1 Q1 z1 hq1
          obtain ⟨F1, H1, I1, st1⟩ := z1
          exact eqG_run ty hT (h j dx dy k1 k2) X.A.in1 rfl hr' F1 H1 s1 I1 st1.fh x y v u (rd.mono st1.ff) (re.mono st1.ff) r1 r2 E1 Q1 fun s2 ⟨F2, H2, I2, st2⟩ => hq1 s2 ⟨F2, H2, I2, st1.trans st2⟩
        · obtain ⟨F', H', I', st⟩ := z
          have := q F' H' st
          rw [i2.len, j2.len]
          exact ⟨.bl _, H', I', rfl, this⟩
  | @lst l m e h =>
    cases rx with
    | @lst a xs _ i1 i2 =>
      cases ry with
      | @lst c ys _ j1 j2 =>
        cases (show v = Value.ref a from vx)
        cases (show u = Value.ref c from vy)
        refine lists_run neq (F := F) (H := H) i1 j1 X.A (by have := hr.un; omega) e z0 (fun j v u q1 q2 z => ?_) _ _ fun s' z => ?_
        · obtain ⟨x, y, e1, e2, r1, r2⟩ := z
          obtain ⟨dx, k1, rd⟩ := i2.get e1
          obtain ⟨dy, k2, re⟩ := j2.get e2
          intro s1 E1 Q1 z1 hq1
          obtain ⟨F1, H1, I1, st1⟩ := z1
          exact eqG_run ty hT (h j dx dy k1 k2) X.A.in1 rfl hr' F1 H1 s1 I1 st1.fh x y v u (rd.mono st1.ff) (re.mono st1.ff) r1 r2 E1 Q1 fun s2 ⟨F2, H2, I2, st2⟩ => hq1 s2 ⟨F2, H2, I2, st1.trans st2⟩
        · obtain ⟨F', H', I', st⟩ := z
          have := q F' H' st
          rw [i2.len, j2.len]
          exact ⟨.bl _, H', I', rfl, this⟩
theorem op_eqG {k : Nat} {A : CtxD} {T : List (Addr × FS)} (ty : TyOk X.K A) (hT : ∀ p ∈ T, OwnE X k p.1 p.2) (n : Nat) (hr : Room (n + 1 + k) X.A) : OpR X (compareOp .Eq) (rCmpG X.K A T n false) := cmpG_run ty hT n hr false
theorem op_neG {k : Nat} {A : CtxD} {T : List (Addr × FS)} (ty : TyOk X.K A) (hT : ∀ p ∈ T, OwnE X k p.1 p.2) (n : Nat) (hr : Room (n + 1 + k) X.A) : OpR X (compareOp .NotEq) (rCmpG X.K A T n true) := cmpG_run ty hT n hr true
def dCmpG (A : CtxD) (T : List (Addr × FS)) (n : Nat) (neq : Bool) : D → D → (D → Prop) → Prop := fun d e q => ∃ b, SqG A T n d e b ∧ q (.bl (xor neq b))
theorem sim_cmpG {K : PySem.W.Frag} {A : CtxD} {T : List (Addr × FS)} {n : Nat} {neq : Bool} : Sim2 K (rCmpG K A T n neq) (dCmpG A T n neq) := fun F H x y d e Q q s r1 r2 w k => by
  obtain ⟨b, g, z⟩ := w
  exact ⟨F, d, e, b, s, r1, r2, g, fun F' H' st => k _ _ F' H' st (.bl _) z⟩
/-- item by item -/
inductive EqL (A : CtxD) (T : List (Addr × FS)) (n : Nat) : List D → List D → List Bool → Prop
  | nil : EqL A T n [] [] []
  | cons {x y : D} {l m : List D} {b : Bool} {bs : List Bool} : EqG A T n x y b → EqL A T n l m bs → EqL A T n (x :: l) (y :: m) (b :: bs)
theorem EqL.len {A : CtxD} {T : List (Addr × FS)} {n : Nat} {l m : List D} {bs : List Bool} (h : EqL A T n l m bs) : l.length = m.length ∧ bs.length = l.length := by
  induction h with
  | nil => exact ⟨rfl, rfl⟩
  | cons _ _ ih => exact ⟨congrArg Nat.succ ih.1, congrArg Nat.succ ih.2⟩
theorem EqL.nth {A : CtxD} {T : List (Addr × FS)} {n : Nat} {l m : List D} {bs : List Bool} (h : EqL A T n l m bs) : ∀ (j : Nat) (x y : D), l[j]? = some x → m[j]? = some y → EqG A T n x y (bs.getD j false) := by
  induction h with
  | nil =>
    intro j x y e
    simp at e
  | cons g _ ih =>
    intro j x y e1 e2
    cases j with
    | zero =>
      simp at e1 e2
      subst e1
      subst e2
      exact g
    | succ j =>
      have := ih j x y (by simpa using e1) (by simpa using e2)
      simpa using this
theorem all_getD (bs : List Bool) : (List.range bs.length).all (fun j => bs.getD j false) = bs.all id := by
  induction bs with
  | nil => rfl
  | cons b bs ih =>
    rw [List.length_cons, List.range_succ_eq_map, List.all_cons, List.all_map, List.all_cons, ← ih]
    rfl
theorem sq_lst {A : CtxD} {T : List (Addr × FS)} {n : Nat} {l m : List D} {bs : List Bool} (h : EqL A T n l m bs) : SqG A T n (.lst l) (.lst m) (bs.all id) := by
  have g := SqG.lst h.nth
  obtain ⟨h1, h2⟩ := h.len
  rw [← h2, all_getD, h2, ← h1] at g
  simpa using g
theorem sq_tup {A : CtxD} {T : List (Addr × FS)} {n : Nat} {l m : List D} {bs : List Bool} (h : EqL A T n l m bs) : SqG A T n (.tup l) (.tup m) (bs.all id) := by
  have g := SqG.tup h.nth
  obtain ⟨h1, h2⟩ := h.len
  rw [← h1, Nat.min_self, ← h2, all_getD] at g
  simpa using g
theorem eqG_lst {A : CtxD} {T : List (Addr × FS)} {n : Nat} {l m : List D} {bs : List Bool} (h : EqL A T n l m bs) : EqG A T (n + 1) (.lst l) (.lst m) (bs.all id) := by
  have g := EqG.lst h.nth
  obtain ⟨h1, h2⟩ := h.len
  rw [← h2, all_getD, h2, ← h1] at g
  simpa using g
theorem eqG_tup {A : CtxD} {T : List (Addr × FS)} {n : Nat} {l m : List D} {bs : List Bool} (h : EqL A T n l m bs) : EqG A T (n + 1) (.tup l) (.tup m) (bs.all id) := by
  have g := EqG.tup h.nth
  obtain ⟨h1, h2⟩ := h.len
  rw [← h1, Nat.min_self, ← h2, all_getD] at g
  simpa using g
end
end DL
/-! DLO: instances called, len of instances, chains, join, list(range). -/
namespace DL
open PySem L2 PySem.Spec PyProof.Rows
section
variable {K : PySem.W.Frag} {E E1 : XK} {ta tb tc to te : TE} {wa wb wc wo we : WE} {X : Cx}
/-! ### a < b < c -/
def wChain (f g : D → D → (D → Prop) → Prop) (wa wb wc : WE) : WE := fun env er q => wa env er fun x => wb env er fun y => f x y fun z => match z with
  | .bl true => wc env er fun v => g y v q
  | .bl false => q (.bl false)
  | _ => False
theorem sim_chain {r r' : R2} {f g : D → D → (D → Prop) → Prop} (hf : Sim2 K r f) (hg : Sim2 K r' g) (ha : SimE K E ta wa) (hb : SimE K E tb wb) (hc : SimE K E tc wc) : SimE K E (tChain r r' ta tb tc) (wChain f g wa wb wc) := fun B env F σ H Q er q a l w k =>
  ha B env F σ H _ er _ a l w fun x d F1 H1 s1 r1 w1 => hb B env F1 σ H1 _ er _ (a.step s1) l w1 fun y e F2 H2 s2 r2 w2 =>
    hf F2 H2 x y d e _ _ s2.fh (r1.mono s2.ff) r2 w2 fun z dz F3 H3 s3 r3 w3 => by
      cases r3 with
      | bl b =>
        refine ⟨b, rfl, ?_⟩
        cases b with
        | true =>
          show (if true = true then _ else _)
          rw [if_pos rfl]
          have s123 := (s1.trans s2).trans s3
          exact hc B env F3 σ H3 _ er _ (a.step s123) l w3 fun v dv F4 H4 s4 r4 w4 => hg F4 H4 y v e dv Q q s4.fh (r2.mono (s3.trans s4).ff) r4 w4 (k.step (s123.trans s4))
        | false =>
          show (if false = true then _ else _)
          rw [if_neg Bool.false_ne_true]
          exact k _ _ F3 H3 ((s1.trans s2).trans s3) (.bl false) w3
      | _ => exact w3.elim
/-! ### an instance called -/
def tCallI (C : Addr) (sp : Sp) (E : XK) (tf : TE) (t : TA) : TE := fun σ H Q => tf σ H fun y H1 => ∃ a, y = V.ref a ∧ t σ H1 fun vs H2 => (∃ dx fs, H2 a = some (.ins C dx fs)) ∧ sp (V.ref a :: vs) H2 Q E
theorem pe_callI {CX : CXT} {k : Nat} {C g : Addr} {fd : FuncData} {ps : List Str} {sp : Sp} {fe e : Expr} {es : List Expr} {tf : TE} {t : TA} {pos : Pos} (hf : PE X fe tf) (c : StX.CallO X.K C g) (F : FnOk X.prog X.w X.K X.mg X.base CX k g fd ps sp) (hr : Room k X.A) (hb : Binds X.K fd ps []) (hx : Passes CX X E) (ha : PA X (e :: es) t)
    (ht : eval (.Call fe (e :: es) [] pos) X.env = (do callWith pos (← eval fe X.env) [] (backTo pos (starEach (e :: es) X.env)) (backToKw pos (keywordEach [] X.env))) := by rfl)
    (he : starEach (e :: es) X.env = (false, eval e X.env) :: starEach es X.env := by rfl) (hpl : (backTo pos (starEach es X.env)).any (·.1) = false := by rfl) : PE X (.Call fe (e :: es) [] pos) (tCallI C sp E tf t) := by
  refine ⟨fun pins s σ H Q I h => ?_⟩
  refine Call_ (thn (hf.run pins s σ H _ I h) fun u s1 ⟨y, H1, I1, ry, a, ey, q⟩ => ?_) ht
  subst ey
  obtain rfl : u = Value.ref a := ry
  refine StX.callO_with (thn (ha.run pos pins s1 σ H1 _ I1 q) fun us s2 ⟨vs, H2, I2, r, hi, q2⟩ => ?_) he hpl
  obtain ⟨ox, od, J, hd⟩ := StX.insC_at (C := C) I2 (.inr hi)
  exact ⟨⟨C, ox, od, J, hd⟩, StX.run_callO c (F.raw hb .nil) hr hx I2 (.inr hi) r (by rw [List.append_nil]; exact q2)⟩
def wCallI (C : Addr) (n : Nat) (S : FS) (wf : WE) (wr : WA) : WE := fun env er q => wf env er fun o => match o with
  | .ins C' _ => C' = C ∧ wr env er fun ds => (o :: ds).length = n ∧ S (o :: ds) er q
  | _ => False
theorem sim_callI {C : Addr} {n : Nat} {S : FS} {t : TA} {w : WA} (ho : SimE K E ta wa) (ha : SimA K E t w) : SimE K E (tCallI C (spOf K n S) E ta t) (wCallI C n S wa w) := fun B env F σ H Q er q a l w k =>
  ho B env F σ H _ er _ a l w fun x d F1 H1 s1 r1 w1 => by
    cases r1 with
    | @ins p C' dx xs fs h1 h2 =>
      obtain ⟨e1, w2⟩ := w1
      subst e1
      refine ⟨p, rfl, ha B env F1 σ H1 _ er _ (a.step s1) l w2 fun ys ds F2 H2 s2 r2 w3 => ⟨⟨dx, xs, s2.hh _ _ (s1.fh _ _ h1)⟩, ?_⟩⟩
      exact ⟨F2, _, er, q, w3.1, s2.fh, .cons ((Rep.ins h1 h2).mono s2.ff) r2, w3.2, k.step (s1.trans s2), l.at (a.step (s1.trans s2))⟩
    | _ => exact w1.elim
def wCallI0 (C : Addr) (n : Nat) (S : FS) (wf : WE) (wr : WA) : WE := fun env er q => wf env er fun o => match o with
  | .ins C' _ => C' = C ∧ wr env er fun ds => (o :: ds).length = n ∧ S (o :: ds) (fun _ => False) q
  | _ => False
theorem sim_callI0 {C : Addr} {n : Nat} {S : FS} {t : TA} {w : WA} (ho : SimE K E ta wa) (ha : SimA K E t w) : SimE K E (tCallI C (spOf K n S) E1 ta t) (wCallI0 C n S wa w) := fun B env F σ H Q er q a l w k =>
  ho B env F σ H _ er _ a l w fun x d F1 H1 s1 r1 w1 => by
    cases r1 with
    | @ins p C' dx xs fs h1 h2 =>
      obtain ⟨e1, w2⟩ := w1
      subst e1
      refine ⟨p, rfl, ha B env F1 σ H1 _ er _ (a.step s1) l w2 fun ys ds F2 H2 s2 r2 w3 => ⟨⟨dx, xs, s2.hh _ _ (s1.fh _ _ h1)⟩, ?_⟩⟩
      exact ⟨F2, _, _, q, w3.1, s2.fh, .cons ((Rep.ins h1 h2).mono s2.ff) r2, w3.2, k.step (s1.trans s2), EL.no⟩
    | _ => exact w1.elim
theorem callO_ofK {M : Model} {A : Around} {E : Value → Shared → Prop} {s : Shared} {a : Addr} {pos : Pos} {Q : Value → Shared → Prop} {args : List (Bool × Sem Value)} {kws : List (Option Str × Sem Value)} (hplain : (args.any (·.1) || kws.any (·.1.isNone)) = false)
    (h : wpAny M A (evalArgs (.ref a) true args kws) (fun z s₁ => (∃ C ox od, PySem.W.InstAt s₁.heap a ox C od ∧ ox.data = .plain) ∧ wpAny M A (call (.ref a) ([] ++ z.pos) z.kw) Q E s₁) E s) : wpAny M A (callWith pos (.ref a) [] args kws) Q E s := by
  unfold callWith
  refine wpAny_bind (wpAny_holding (wpAny_mono h (fun z s₁ h₁ => wpAny_bind (wpAny_standAt ?_)) fun _ _ y => y))
  obtain ⟨⟨C, ox, od, J, hd⟩, h₁⟩ := h₁
  have L := PySem.W.kco_keeper (M := M) J hd
  simp only [hplain]
  refine wpAny_bind (L.here ?_)
  have tail : ∀ {t : Sem Value}, wpAny M A t Q E s₁ → wpAny M A (t >>= fun r => holding [r] point >>= fun _ => pure r) Q E s₁ :=
    fun ht => wpAny_bind (wpAny_mono ht (fun r s₂ hr => wpAny_bind (wpAny_holding (wpAny_point (wpAny_pure hr)))) fun _ _ y => y)
  exact tail (wpAny_operateT h₁)
/-- with keywords alone -/
def tCallIK (C : Addr) (m : Nat) (sp : Sp) (gV : List V → List V → List V) (E : XK) (tf : TE) (tk : TA) : TE := fun σ H Q => tf σ H fun y H1 => ∃ a, y = V.ref a ∧ tk σ H1 fun zs H2 => zs.length = m ∧ (∃ dx fs, H2 a = some (.ins C dx fs)) ∧ sp (gV [V.ref a] zs) H2 Q E
theorem pe_callIK {CX : CXT} {k : Nat} {C g : Addr} {fd : FuncData} {ps ks : List Str} {sp : Sp} {fe : Expr} {kws : List Keyword} {tf : TE} {tk : TA} {pos : Pos} {gG : List Value → List Value → List Value} {gV : List V → List V → List V} (hf : PE X fe tf) (c : StX.CallO X.K C g) (F : FnOk X.prog X.w X.K X.mg X.base CX k g fd ps sp) (hr : Room k X.A) (hb : KBn X.K fd ps 1 ks gG gV) (hx : Passes CX X E)
    (hkw : PK X kws tk) (hall : (backToKw pos (keywordEach kws X.env)).all (·.1.isSome) = true := by rfl) (hks : (backToKw pos (keywordEach kws X.env)).filterMap (·.1) = ks := by rfl)
    (hpl : ((backTo pos (starEach [] X.env)).any (·.1) || (backToKw pos (keywordEach kws X.env)).any (·.1.isNone)) = false := by rfl)
    (ht : eval (.Call fe [] kws pos) X.env = (do callWith pos (← eval fe X.env) [] (backTo pos (starEach [] X.env)) (backToKw pos (keywordEach kws X.env))) := by rfl) : PE X (.Call fe [] kws pos) (tCallIK C ks.length sp gV E tf tk) := by
  refine ⟨fun pins s σ H Q I h => ?_⟩
  rw [ht]
  refine wpAny_bind (thn (hf.run pins s σ H _ I h) fun u s1 ⟨y, H1, I1, ry, a, ey, q⟩ => ?_)
  subst ey
  obtain rfl : u = Value.ref a := ry
  refine callO_ofK hpl (evalArgs_kw2_nil hall (thn (hkw.run pos pins s1 σ H1 _ I1 q) fun ws s2 ⟨zs, H2, I2, rz, hl, hi, q2⟩ => ?_))
  obtain ⟨ox, od, J, hd⟩ := StX.insC_at (C := C) I2 (.inr hi)
  refine ⟨⟨C, ox, od, J, hd⟩, ?_⟩
  rw [hks]
  have r2 := hb.rel (.cons (show RelV (V.ref a) (Value.ref a) from rfl) .nil) rz
  refine wpAny_call (PySem.W.kco_code I2.kIn J hd c.at_ c.fn c.fi (codeAny_mono (F.run X.A X.stack s2 H2 ⟨[.ref a], ks.zip ws⟩ (gG [.ref a] ws) (gV [.ref a] zs) Q E hr I2.env0 (hb.to s2 [.ref a] ws I2.kIn rfl (rz.length.symm.trans hl)) r2 q2) fun r s' hq => ?_))
  cases r with
  | error e => exact hx pins σ H2 s2 e s' I2 hq
  | ok fl =>
    cases fl with
    | ret u => exact I2.after hq
    | next => exact False.elim hq
    | brk => exact False.elim hq
    | cont => exact False.elim hq
def wCallIK0 (C : Addr) (mm n : Nat) (S : FS) (g : List D → List D → List D) (wf : WE) (wk : WA) : WE := fun env er q => wf env er fun o => match o with
  | .ins C' _ => C' = C ∧ wk env er fun zs => zs.length = mm ∧ (g [o] zs).length = n ∧ S (g [o] zs) (fun _ => False) q
  | _ => False
theorem sim_callIK0 {C : Addr} {mm n : Nat} {S : FS} {gV : List V → List V → List V} {g : List D → List D → List D} {t : TA} {w : WA} (hg : ∀ F vs ds us zs, RepA K F vs ds → RepA K F us zs → RepA K F (gV vs us) (g ds zs)) (ho : SimE K E ta wa) (ha : SimA K E t w) :
    SimE K E (tCallIK C mm (spOf K n S) gV E1 ta t) (wCallIK0 C mm n S g wa w) := fun B env F σ H Q er q a l w k =>
  ho B env F σ H _ er _ a l w fun x d F1 H1 s1 r1 w1 => by
    cases r1 with
    | @ins p C' dx xs fs h1 h2 =>
      obtain ⟨e1, w2⟩ := w1
      subst e1
      refine ⟨p, rfl, ha B env F1 σ H1 _ er _ (a.step s1) l w2 fun ys zs F2 H2 s2 r2 w3 => ⟨by rw [r2.len]; exact w3.1, ⟨dx, xs, s2.hh _ _ (s1.fh _ _ h1)⟩, ?_⟩⟩
      exact ⟨F2, _, _, q, w3.2.1, s2.fh, hg F2 _ _ _ _ (.one ((Rep.ins h1 h2).mono s2.ff)) r2, w3.2.2, k.step (s1.trans s2), EL.no⟩
    | _ => exact w1.elim

/-! ### len of an instance -/
def rLenO (C : Addr) (sp : Sp) (E : XK) : List V → Hp → VK → Prop := fun xs H Q => ∃ a dx fs, xs = [V.ref a] ∧ H a = some (.ins C dx fs) ∧ sp [V.ref a] H (fun z H' => ∃ n : Int, z = .int n ∧ 0 ≤ n ∧ n < 2 ^ 63 ∧ Q (.int n) H') E
theorem call_lenO {CX : CXT} {k : Nat} {C g : Addr} {fd : FuncData} {sp : Sp} (hs : PySem.W.findIn X.K (.ref C) "__len__" = some (some (.ref g))) (hf : PySem.W.isFn X.K (.ref g) = true) (F : FnOk X.prog X.w X.K X.mg X.base CX k g fd ["self"] sp) (hb : Binds X.K fd ["self"] []) (hr : Room (k + 1) X.A) (hx : Passes CX X E) :
    CallR X (.builtin "len") (rLenO C sp E) := by
  intro pins s σ H xs us Q I r h
  obtain ⟨a, dx, fs, rfl, ha, q⟩ := h
  obtain ⟨u, rfl, rx⟩ := vals1 r
  cases (show u = Value.ref a from rx)
  obtain ⟨od, J⟩ := ins_inst I ha
  obtain ⟨m, hF⟩ := I.fr
  refine PySem.W.len_K hF I.ok.mod.kin J hs hf ?_
  refine wpAny_mono (run_fnA (us := [.ref a]) (vs := [.ref a]) (A := X.A.in1) F hr.in1 rfl hb hx I (.cons rfl .nil) q) (fun w s' z => ?_) fun _ _ x => x
  obtain ⟨z', H', I', rz, n, rfl, h0, h1, qz⟩ := z
  obtain ⟨t, rfl⟩ := rz
  exact ⟨⟨h0, h1⟩, .int n, H', I'.tok _, ⟨_, rfl⟩, qz⟩
def dLenO (C : Addr) (S : FS) : List D → (D → Prop) → Prop := fun ds q => match ds with
  | [.ins C' fs] => C' = C ∧ S [.ins C' fs] (fun _ => False) fun z => match z with
    | .int n => 0 ≤ n ∧ n < 2 ^ 63 ∧ q (.int n)
    | _ => False
  | _ => False
theorem sim_lenO {C : Addr} {S : FS} : SimC K (rLenO C (spOf K 1 S) E1) (dLenO C S) := fun F H xs ds Q q s r w k => by
  unfold dLenO at w
  split at w
  · cases r with
    | cons r1 r2 =>
      cases r2
      cases r1 with
      | ins h1 h2 =>
        obtain ⟨rfl, w⟩ := w
        refine ⟨_, _, _, rfl, s _ _ h1, F, _, _, _, rfl, s, .one (.ins h1 h2), w, fun v z F' H' s' r' z' => ?_, EL.no⟩
        cases r' with
        | int n => exact ⟨n, rfl, z'.1, z'.2.1, k _ _ F' H' s' (.int n) z'.2.2⟩
        | _ => exact False.elim z'
  · exact w.elim

/-! ### sep.join(texts) -/
def strsD : List D → Option (List Str)
  | [] => some []
  | .str x :: r => (strsD r).map (x :: ·)
  | _ => none
theorem strs_rep {F : Hp} : ∀ {xs : List V} {l : List D} {ys : List Str}, RepA K F xs l → strsD l = some ys → xs = ys.map V.str
  | _, [], _, .nil, e => by
    cases e
    rfl
  | _, d :: l, bs, .cons h r, e => by
    cases h with
    | str b =>
      unfold strsD at e
      cases h2 : strsD l with
      | none =>
        rw [h2] at e
        cases e
      | some cs =>
        rw [h2] at e
        cases e
        rw [strs_rep r h2]
        rfl
    | _ => cases e
abbrev rJoin (K : PySem.W.Frag) : V → List V → Hp → VK → Prop := fun x xs H Q => ∃ a p, ∃ ys : List Str, x = .str a ∧ xs = [.ref p] ∧ (SqL K H p (ys.map V.str) ∨ SqT K H p (ys.map V.str)) ∧ (ys.map (·.length)).sum + ys.length * a.length ≤ 16777216 ∧ Q (.str (Txt.join a ys)) H
def wJoin (wa : WE) (wo : WO) : WE := fun env er q => wa env er fun x => match x with
  | .str a => wo env er fun l => ∃ ys, strsD l = some ys ∧ (ys.map (·.length)).sum + ys.length * a.length ≤ 16777216 ∧ q (.str (Txt.join a ys))
  | _ => False
theorem sim_join {w : WO} (ha : SimE K E ta wa) (hl : SimL K E tb w) : SimE K E (tBM K "str" (rJoin K) ta (tCons tb tNil)) (wJoin wa w) := fun B env F σ H Q er q a l w k =>
  ha B env F σ H _ er _ a l w fun x d F1 H1 s1 r1 w1 => by
    cases r1 with
    | str z =>
      refine ⟨rfl, hl B env F1 σ H1 _ er _ (a.step s1) l w1 fun p xs ls F2 H2 s2 h2 r2 w2 => ?_⟩
      obtain ⟨ys, e, hz, w2⟩ := w2
      rw [strs_rep r2 e] at h2
      exact ⟨z, p, ys, rfl, rfl, .inl h2, hz, k _ _ F2 H2 (s1.trans s2) (.str _) w2⟩
    | _ => exact w1.elim
theorem strsD_map {α : Type} (f : α → Str) : ∀ l : List α, strsD (l.map fun x => D.str (f x)) = some (l.map f)
  | [] => rfl
  | x :: l => by
    rw [List.map_cons]
    unfold strsD
    rw [strsD_map f l]
    rfl

/-! ### list(range(..)) -/
theorem rgV_rep {F : Hp} (a b : Int) : RepA K F (rgV a b) (rngD a (b - a).toNat) := by
  unfold rgV rngD
  generalize (b - a).toNat = n
  have : ∀ l : List Nat, RepA K F (l.map fun i => V.int (a + (i : Nat))) (l.map fun i => D.int (a + (i : Nat))) := fun l => by
    induction l with
    | nil => exact .nil
    | cons x l ih => exact .cons (.int _) ih
  exact this _
def wLRg1 (wa : WE) : WO := fun env er q => wa env er fun x => match x with
  | .int n => RgOk 0 n ∧ q (rngD 0 n.toNat)
  | _ => False
theorem simo_lrg1 (ha : SimE K E ta wa) : SimO K E (tLstRg (tRg1 ta)) (wLRg1 wa) := fun B env F σ H Q er q a l w k =>
  ha B env F σ H _ er _ a l w fun x d F1 H1 s1 r1 w1 => by
    cases r1 with
    | int n =>
      refine ⟨n, rfl, w1.1, fun p hp => k p _ _ F1 _ (s1.trans (Stp.fresh s1.fh hp)) (s1.hh.free hp) upd_same (s1.fh.free hp) ?_ w1.2⟩
      have := rgV_rep (K := K) (F := F1) 0 n
      rwa [Int.sub_zero] at this
    | _ => exact w1.elim
def wLRg2 (wa wb : WE) : WO := fun env er q => wa env er fun x => wb env er fun y => match x, y with
  | .int i, .int j => RgOk i j ∧ q (rngD i (j - i).toNat)
  | _, _ => False
theorem simo_lrg2 (ha : SimE K E ta wa) (hb : SimE K E tb wb) : SimO K E (tLstRg (tRg2 ta tb)) (wLRg2 wa wb) := fun B env F σ H Q er q a l w k =>
  ha B env F σ H _ er _ a l w fun x d F1 H1 s1 r1 w1 => hb B env F1 σ H1 _ er _ (a.step s1) l w1 fun y e F2 H2 s2 r2 w2 => by
    split at w2
    · cases r1
      cases r2
      exact ⟨_, _, rfl, rfl, w2.1, fun p hp => k p _ _ F2 _ ((s1.trans s2).trans (Stp.fresh s2.fh hp)) (s1.hh.free (s2.hh.free hp)) upd_same (s2.fh.free hp) (rgV_rep _ _) w2.2⟩
    · exact w2.elim
/-- a comprehension whose items are only known to be of a kind -/
theorem comp_any {α β : Type} {c : α → D} {g : D → EV → (EV → Prop) → Prop} {we : WE} {ew : EV} {er : ER} {q : List D → Prop} {ev : α → EV} {e : β → D} {R : β → Prop} : ∀ {l : List α} {acc : List D}, (∀ x ∈ l, ∀ Q : EV → Prop, Q (ev x) → g (c x) ew Q) →
    (∀ x ∈ l, ∀ Q : D → Prop, (∀ z, R z → Q (e z)) → we (ev x) er Q) → acc.length + l.length ≤ PySem.sizeLine → (∀ zs : List β, zs.length = l.length → (∀ z ∈ zs, R z) → q (acc ++ zs.map e)) → wComp g wYes we ew er q (l.map c) acc
  | [], acc, _, _, _, z => by
    have := z [] rfl (by simp)
    show q acc
    simpa using this
  | x :: l, acc, h1, h3, h4, z => by
    rw [List.length_cons] at h4
    refine h1 x (by simp) _ ⟨fun _ => h3 x (by simp) _ fun y hy => ⟨by omega, ?_⟩, fun e => nomatch e⟩
    refine comp_any (ev := ev) (e := e) (R := R) (fun y hy => h1 y (by simp [hy])) (fun y hy => h3 y (by simp [hy])) (by rw [List.length_append]; show acc.length + 1 + l.length ≤ _; omega) fun zs hz hr => ?_
    have := z (y :: zs) (by rw [List.length_cons, List.length_cons, hz]) (fun w hw => by
      rcases List.mem_cons.mp hw with rfl | hw
      · exact hy
      · exact hr w hw)
    simpa using this
theorem join_chars : ∀ cs : List Nat, Txt.join (PySem.Str.ofString "") (cs.map fun c => (⟨#[c]⟩ : PySem.Str)) = ⟨cs.toArray⟩ := fun cs => by
  have e0 : PySem.Str.ofString "" = (⟨#[]⟩ : PySem.Str) := by decide
  have h : ∀ cs : List Nat, PySem.Str.join (⟨#[]⟩ : PySem.Str) (cs.map fun c => (⟨#[c]⟩ : PySem.Str)) = ⟨cs.toArray⟩ := fun cs => by
    induction cs with
    | nil => rfl
    | cons c r ih =>
      cases r with
      | nil => rfl
      | cons d r =>
        show (⟨#[c]⟩ : PySem.Str) ++ ⟨#[]⟩ ++ PySem.Str.join ⟨#[]⟩ ((d :: r).map fun c => (⟨#[c]⟩ : PySem.Str)) = _
        rw [ih]
        show (⟨(#[c] ++ #[]) ++ (d :: r).toArray⟩ : PySem.Str) = _
        simp
  rw [TL.join_eq, e0]
  exact h cs
theorem sum_chars (cs : List Nat) : ((cs.map fun c => (⟨#[c]⟩ : PySem.Str)).map (·.length)).sum = cs.length := by
  induction cs with
  | nil => rfl
  | cons c r ih =>
    rw [List.map_cons, List.map_cons, List.sum_cons, ih, List.length_cons]
    show 1 + _ = _
    omega
theorem cutD_from {α : Type} {xs : List α} {n : Nat} : cutD xs (some (n : Int)) none = xs.drop n := by
  unfold cutD
  rw [HT.sIx_nat, HT.sIx_none]
  by_cases h : n ≤ xs.length
  · rw [Nat.min_eq_left h, List.take_of_length_le (by rw [List.length_drop]; exact Nat.le_refl _)]
  · rw [Nat.min_eq_right (by omega), List.drop_length, List.drop_of_length_le (by omega)]
    simp
end
end DL
namespace Lw
open PySem L2 DL
structure Ad where
  c_ShapeError : PySem.Addr
  c_InvalidStep : PySem.Addr
  c_InvalidNumber : PySem.Addr
  c_InvalidDigits : PySem.Addr
  c_InvalidMoves : PySem.Addr
  c_InvalidSigns : PySem.Addr
  c_NotASystem : PySem.Addr
  c_System : PySem.Addr
  c_Row : PySem.Addr
  ne : [c_System, c_Row].Nodup
def cd (A : Ad) : CtxD := cdOf [(A.c_System, [A.c_System]), (A.c_Row, [A.c_Row])]
/-! ### the numbers of a system -/
/-- the unit before, the unit -/
def pr (k : Int) : Nat → Int × Int
  | 0 => (1, 1)
  | n + 1 => ((pr k n).2, k * (pr k n).2 + (pr k n).1)
def un (k : Int) (n : Nat) : Int := (pr k n).2
def unL (k : Int) (n : Nat) : List Int := (List.range n).map (un k)
def gd : List Int → Int → List Int
  | [], _ => []
  | u :: us, r => (r / u) :: gd us (r % u)
/-- the digits of m by the first j units -/
def dg (k : Int) (m : Int) (j : Nat) : List Int := gd (unL k j).reverse m
/-- what the digits tell, from the last one -/
def nv (k : Int) : Int → Int → Int → List Int → Int
  | f, _, _, [] => f
  | f, b, u, d :: r => nv k (f + d * u) u (k * u + b) r
def Lim (k m : Int) (j : Nat) : Prop := (∀ i, i < j → un k i ≤ m) ∧ m < un k j
def pairOk (k : Int) (l : List Int) (i : Nat) : Bool := (match l[i]? with | some d => decide (d < k) | none => false) || (match l[i + 1]? with | some d => d == 0 | none => false)
def isDg (k : Int) (l : List Int) : Bool := (l.all fun d => decide (0 ≤ d) && decide (d ≤ k)) && ((List.range (l.length - 1)).all (pairOk k l))
def isI : D → Bool
  | .int _ => true
  | _ => false
def sysD (A : Ad) (k : Int) : D := .ins A.c_System [("step", .int k)]
def K3 (k : Int) : Prop := 1 ≤ k ∧ k ≤ 3
/-! ### what each def does -/
def isSys (A : Ad) (d : D) (p : Int → Prop) : Prop := match d with
  | .ins C fs => C = A.c_System ∧ ∃ k, fs = [(("step" : Str), D.int k)] ∧ p k
  | _ => False
def isInts (d : D) (p : List Int → Prop) : Prop := match d with
  | .tup t => ∃ l : List Int, t = l.map .int ∧ p l
  | _ => False
def S_is_integer (A : Ad) : FS := fun ds _ q => match ds with
  | [d] => (isT (cd A) d "int").isSome = true ∧ q (.bl (isI d))
  | _ => False
def S_is_number (A : Ad) : FS := fun ds _ q => match ds with
  | [.int i, .int m] => q (.bl (decide (0 ≤ i) && decide (i ≤ m)))
  | _ => False
def S_System_init (A : Ad) : IS := fun ds _ q => match ds with
  | [.int k] => K3 k ∧ q [("step", .int k)]
  | _ => False
def S_units_up_to (A : Ad) : FS := fun ds _ q => match ds with
  | [.int k, .int m] => K3 k ∧ ∃ j : Nat, Lim k m j ∧ j ≤ 200 ∧ q (.lst ((unL k j).map .int))
  | _ => False
def S_digits_of (A : Ad) : FS := fun ds _ q => match ds with
  | [.int k, .int m] => K3 k ∧ m ≤ 10 ^ 41 ∧ ∃ j : Nat, Lim k m j ∧ j ≤ 200 ∧ q (.tup ((dg k m j).map .int))
  | _ => False
def S_System_eq (A : Ad) : FS := fun ds _ q => match ds with
  | [x, y] => isSys A x fun k => match y with
    | .ins C fs => C = A.c_System ∧ ∃ j, fs = [(("step" : Str), D.int j)] ∧ q (.bl (k == j))
    | d => isO (cd A) d A.c_System = some false ∧ q (.bl false)
  | _ => False
def S_law_draw (A : Ad) : FS := sDraw
def S_law_bag (A : Ad) : FS := fun ds _ q => match ds with
  | [.scr ns, .int k] => 0 ≤ k ∧ ∀ a, q (.bag a)
  | _ => False
def S_law_units (A : Ad) : FS := fun ds _ q => match ds with
  | [.int k, .int n] => K3 k ∧ 0 ≤ n ∧ n ≤ 1000 ∧ q (.lst ((unL k n.toNat).map .int))
  | _ => False
def S_law_digits (A : Ad) : FS := fun ds _ q => match ds with
  | [.int k, .int m] => K3 k ∧ 0 ≤ m ∧ m ≤ 10 ^ 40 ∧ ∃ j : Nat, Lim k m j ∧ j ≤ 197 ∧ q (.tup ((dg k m j).map .int))
  | _ => False
def S_law_great (A : Ad) : FS := fun ds _ q => match ds with
  | [.bag _, .int k] => K3 k ∧ ∀ m : Int, 0 ≤ m → m ≤ 10 ^ 40 → q (.int m)
  | _ => False
def S_law_right (A : Ad) : FS := fun ds _ q => match ds with
  | [.bag _] => q (.bl true)
  | _ => False
def S_law (A : Ad) : FS := sLawD
/-! ### rows -/
/-- the texts of one sign each -/
def ch (c : Nat) : D := .str ⟨#[c]⟩
def mvD (mv : List (List Int)) : D := .tup (mv.map fun l => .tup (l.map .int))
def isMv (d : D) (p : List (List Int) → Prop) : Prop := match d with
  | .tup t => ∃ mv : List (List Int), t = mv.map (fun l => .tup (l.map .int)) ∧ p mv
  | _ => False
structure OkMv (k : Int) (mv : List (List Int)) : Prop where
  lo : 1 ≤ mv.length
  hi : mv.length ≤ 8
  wd : ∀ l ∈ mv, (l.length : Int) = k + 1
  st : ∀ l ∈ mv, ∀ s ∈ l, 0 ≤ s ∧ s ≤ (mv.length : Int) - 1
  z0 : ∃ l r, mv = (0 :: l) :: r
def OkSg (mv : List (List Int)) (x : PySem.Str) : Prop := x.length = mv.length ∧ ∀ c ∈ x.cps.toList, 97 ≤ c ∧ c ≤ 122
def rowD (A : Ad) (k : Int) (mv : List (List Int)) (x : PySem.Str) : D := .ins A.c_Row [("system", sysD A k), ("moves", mvD mv), ("signs", .str x)]
def isRow (A : Ad) (d : D) (p : Int → List (List Int) → PySem.Str → Prop) : Prop := match d with
  | .ins C fs => C = A.c_Row ∧ ∃ k mv x, fs = [(("system" : PySem.Str), sysD A k), (("moves" : PySem.Str), mvD mv), (("signs" : PySem.Str), D.str x)] ∧ p k mv x
  | _ => False
/-- one move on -/
def stp (mv : List (List Int)) (s d : Int) : Int := (mv[s.toNat]?.getD [])[d.toNat]?.getD 0
def walk (mv : List (List Int)) : Int → List Int → Int
  | s, [] => s
  | s, d :: r => walk mv (stp mv s d) r
def sgn (k : Int) (mv : List (List Int)) (x : PySem.Str) (m : Int) (j : Nat) : D := ch (x.cps.toList[(walk mv 0 (dg k m j)).toNat]?.getD 0)
def S_check_system (A : Ad) : FS := fun ds _ q => match ds with
  | [x] => isSys A x fun _ => q .non
  | _ => False
def S_are_moves (A : Ad) : FS := fun ds _ q => match ds with
  | [.int k, d] => isMv d fun mv => K3 k ∧ OkMv k mv ∧ q (.bl true)
  | _ => False
def S_are_small (A : Ad) : FS := fun ds _ q => match ds with
  | [.str x, .int a, .int b] => (x.length ≤ 1000 ∧ a ≤ x.length ∧ x.length ≤ b ∧ ∀ c ∈ x.cps.toList, 97 ≤ c ∧ c ≤ 122) ∧ q (.bl true)
  | _ => False
def S_Row_init (A : Ad) : IS := fun ds _ q => match ds with
  | [s, m, .str x] => isSys A s fun k => isMv m fun mv => K3 k ∧ OkMv k mv ∧ OkSg mv x ∧ q [("system", sysD A k), ("moves", mvD mv), ("signs", .str x)]
  | _ => False
def S_Row_len (A : Ad) : FS := fun ds _ q => match ds with
  | [r] => isRow A r fun _ mv _ => q (.int mv.length)
  | _ => False
def S_sign_at (A : Ad) : FS := fun ds _ q => match ds with
  | [r, .int m] => isRow A r fun k mv x => K3 k ∧ OkMv k mv ∧ OkSg mv x ∧ 0 ≤ m ∧ m ≤ 10 ^ 40 + 3000 ∧ ∃ j : Nat, Lim k m j ∧ j ≤ 200 ∧ q (sgn k mv x m j)
  | _ => False
def S_Row_call (A : Ad) : FS := fun ds _ q => match ds with
  | [r, .int m] => isRow A r fun k mv x => K3 k ∧ OkMv k mv ∧ OkSg mv x ∧ 0 ≤ m ∧ m ≤ 10 ^ 40 ∧ ∃ j : Nat, Lim k m j ∧ j ≤ 200 ∧ q (sgn k mv x m j)
  | _ => False
def S_Row_eq (A : Ad) : FS := fun ds _ q => match ds with
  | [r, y] => isRow A r fun k mv x => match y with
    | .ins C fs => C = A.c_Row ∧ ∃ k2 mv2 x2, fs = [(("system" : PySem.Str), sysD A k2), (("moves" : PySem.Str), mvD mv2), (("signs" : PySem.Str), D.str x2)] ∧ (∀ c ∈ x.cps.toList, c < 1114112) ∧ (∀ c ∈ x2.cps.toList, c < 1114112) ∧ q (.bl ((k == k2) && ((eqD (mvD mv) (mvD mv2)) && (eqD (.str x) (.str x2)))))
    | d => isO (cd A) d A.c_Row = some false ∧ q (.bl false)
  | _ => False
def S_law_one (A : Ad) : FS := fun ds _ q => match ds with
  | [.bag _, .str x] => 0 < x.length ∧ x.length ≤ 1000 ∧ ∀ c ∈ x.cps.toList, q (ch c)
  | _ => False
def S_law_table (A : Ad) : FS := fun ds _ q => match ds with
  | [.bag _, .int k] => K3 k ∧ ∀ mv x, OkMv k mv → OkSg mv x → q (.tup [mvD mv, .str x])
  | _ => False
def S_law_sign (A : Ad) : FS := fun ds _ q => match ds with
  | [.int k, .tup [d, .str x], .int m] => isMv d fun mv => K3 k ∧ OkMv k mv ∧ OkSg mv x ∧ 0 ≤ m ∧ m ≤ 10 ^ 40 ∧ ∃ j : Nat, Lim k m j ∧ j ≤ 197 ∧ q (sgn k mv x m j)
  | _ => False
end Lw
namespace Lw
open PySem L2 DL
def top (i : Nat) : Stmt := PySem.Challenge.pw_goldenrows_k05_signs_of_rows.main.body.getD i (.Pass ⟨0, 0, 0, 0⟩)
abbrev s_System_eq : Stmt := inClass (top 21) 5
theorem sc_System_eq : FnScope ["self", "other"] ["self", "other"] (defScope s_System_eq) := ⟨rfl, rfl, rfl, by decide +kernel, rfl, by decide +kernel, by decide +kernel⟩
abbrev s_Row_eq : Stmt := inClass (top 25) 5
theorem sc_Row_eq : FnScope ["self", "other"] ["self", "other"] (defScope s_Row_eq) := ⟨rfl, rfl, rfl, by decide +kernel, rfl, by decide +kernel, by decide +kernel⟩
abbrev s_law_draw : Stmt := top 29
theorem sc_law_draw : FnScope ["_law_bag_here", "_law_wide", "_law_figure", "_law_held"] ["_law_bag_here", "_law_wide"] (defScope s_law_draw) := ⟨rfl, rfl, rfl, by decide +kernel, rfl, by decide +kernel, by decide +kernel⟩
abbrev s_law_one : Stmt := top 30
theorem sc_law_one : FnScope ["_law_bag_here", "_law_some"] ["_law_bag_here", "_law_some"] (defScope s_law_one) := ⟨rfl, rfl, rfl, by decide +kernel, rfl, by decide +kernel, by decide +kernel⟩
abbrev s_law_table : Stmt := top 34
theorem sc_law_table : FnScope ["_law_bag_here", "_law_level", "_law_many", "_law_found", "_law_stand", "_law_digit", "_law_first"] ["_law_bag_here", "_law_level"] (defScope s_law_table) := ⟨rfl, rfl, rfl, by decide +kernel, rfl, by decide +kernel, by decide +kernel⟩
abbrev s_check_system : Stmt := top 22
theorem sc_check_system : FnScope ["system"] ["system"] (defScope s_check_system) := ⟨rfl, rfl, rfl, by decide +kernel, rfl, by decide +kernel, by decide +kernel⟩
abbrev s_is_integer : Stmt := top 10
theorem sc_is_integer : FnScope ["value"] ["value"] (defScope s_is_integer) := ⟨rfl, rfl, rfl, by decide +kernel, rfl, by decide +kernel, by decide +kernel⟩
abbrev s_is_number : Stmt := top 11
theorem sc_is_number : FnScope ["value", "most"] ["value", "most"] (defScope s_is_number) := ⟨rfl, rfl, rfl, by decide +kernel, rfl, by decide +kernel, by decide +kernel⟩
abbrev s_are_moves : Stmt := top 24
theorem sc_are_moves : FnScope ["step", "value", "line", "stand"] ["step", "value"] (defScope s_are_moves) := ⟨rfl, rfl, rfl, by decide +kernel, rfl, by decide +kernel, by decide +kernel⟩
abbrev s_are_small : Stmt := top 12
theorem sc_are_small : FnScope ["value", "least", "most", "sign"] ["value", "least", "most"] (defScope s_are_small) := ⟨rfl, rfl, rfl, by decide +kernel, rfl, by decide +kernel, by decide +kernel⟩
abbrev s_Row_init : Stmt := inClass (top 25) 0
theorem sc_Row_init : FnScope ["self", "system", "moves", "signs"] ["self", "system", "moves", "signs"] (defScope s_Row_init) := ⟨rfl, rfl, rfl, by decide +kernel, rfl, by decide +kernel, by decide +kernel⟩
abbrev s_System_init : Stmt := inClass (top 21) 0
theorem sc_System_init : FnScope ["self", "step"] ["self", "step"] (defScope s_System_init) := ⟨rfl, rfl, rfl, by decide +kernel, rfl, by decide +kernel, by decide +kernel⟩
abbrev s_Row_len : Stmt := inClass (top 25) 4
theorem sc_Row_len : FnScope ["self"] ["self"] (defScope s_Row_len) := ⟨rfl, rfl, rfl, by decide +kernel, rfl, by decide +kernel, by decide +kernel⟩
abbrev s_law_units : Stmt := top 31
theorem sc_law_units : FnScope ["_law_level", "_law_many", "_law_found", "_law_turn"] ["_law_level", "_law_many"] (defScope s_law_units) := ⟨rfl, rfl, rfl, by decide +kernel, rfl, by decide +kernel, by decide +kernel⟩
abbrev s_law_great : Stmt := top 33
theorem sc_law_great : FnScope ["_law_bag_here", "_law_level", "_law_way", "_law_found", "_law_turn"] ["_law_bag_here", "_law_level"] (defScope s_law_great) := ⟨rfl, rfl, rfl, by decide +kernel, rfl, by decide +kernel, by decide +kernel⟩
abbrev s_units_up_to : Stmt := top 18
theorem sc_units_up_to : FnScope ["step", "number", "found", "before", "unit"] ["step", "number"] (defScope s_units_up_to) := ⟨rfl, rfl, rfl, by decide +kernel, rfl, by decide +kernel, by decide +kernel⟩
abbrev s_digits_of : Stmt := top 19
theorem sc_digits_of : FnScope ["step", "number", "found", "rest", "unit"] ["step", "number"] (defScope s_digits_of) := ⟨rfl, rfl, rfl, by decide +kernel, rfl, by decide +kernel, by decide +kernel⟩
abbrev s_sign_at : Stmt := top 26
theorem sc_sign_at : FnScope ["row", "number", "stand", "digit"] ["row", "number"] (defScope s_sign_at) := ⟨rfl, rfl, rfl, by decide +kernel, rfl, by decide +kernel, by decide +kernel⟩
abbrev s_Row_call : Stmt := inClass (top 25) 2
theorem sc_Row_call : FnScope ["self", "number"] ["self", "number"] (defScope s_Row_call) := ⟨rfl, rfl, rfl, by decide +kernel, rfl, by decide +kernel, by decide +kernel⟩
abbrev s_law_digits : Stmt := top 32
theorem sc_law_digits : FnScope ["_law_level", "_law_amount", "_law_found", "_law_left", "_law_unit", "_law_many", "_law_k"] ["_law_level", "_law_amount"] (defScope s_law_digits) := ⟨rfl, rfl, rfl, by decide +kernel, rfl, by decide +kernel, by decide +kernel⟩
abbrev s_law_sign : Stmt := top 35
theorem sc_law_sign : FnScope ["_law_level", "_law_table_here", "_law_amount", "_law_stand", "_law_digit"] ["_law_level", "_law_table_here", "_law_amount"] (defScope s_law_sign) := ⟨rfl, rfl, rfl, by decide +kernel, rfl, by decide +kernel, by decide +kernel⟩
abbrev s_law_right : Stmt := top 36
theorem sc_law_right : FnScope ["_law_bag_here", "_law_level", "_law_table_here", "_law_mine", "_law_again", "_law_places", "_law_turn", "_law_here", "_law_other", "_law_bent"] ["_law_bag_here"] (defScope s_law_right) := ⟨rfl, rfl, rfl, by decide +kernel, rfl, by decide +kernel, by decide +kernel⟩
abbrev s_law_bag : Stmt := top 28
theorem sc_law_bag : FnScope ["_law_cells", "_law_k", "_law_cell", "_law_seed", "_law_this", "_law_figures"] ["_law_cells", "_law_k"] (defScope s_law_bag) := ⟨rfl, rfl, rfl, by decide +kernel, rfl, by decide +kernel, by decide +kernel⟩
abbrev s_law : Stmt := top 37
theorem sc_law : FnScope ["_law_cells", "_law_k"] ["_law_cells"] (defScope s_law) := ⟨rfl, rfl, rfl, by decide +kernel, rfl, by decide +kernel, by decide +kernel⟩
def TT (A : Ad) : List (PySem.Addr × FS) := [(A.c_System, S_System_eq A), (A.c_Row, S_Row_eq A)]
def w_System_eq (A : Ad) : WS :=
    (sRet (wAnd (wCB (isA (cd A)) (wCons (wVar 1) (wCons (wC (.obj A.c_System)) wNil))) (w2 dEq (wFldC A.c_System "step" (wVar 0)) (wFldC A.c_System "step" (wVar 1)))))
def w_Row_eq (A : Ad) : WS :=
    (sSeq (sIf (tyNot (wB (wCB (isA (cd A)) (wCons (wVar 1) (wCons (wC (.obj A.c_Row)) wNil))))) (sRet (wC (.bl false))) sNext)
    (sRet (wAnd (w2 (eqO (cd A) A.c_System (S_System_eq A)) (wFldC A.c_Row "system" (wVar 0)) (wFldC A.c_Row "system" (wVar 1))) (wAnd (w2 dEq (wFldC A.c_Row "moves" (wVar 0)) (wFldC A.c_Row "moves" (wVar 1))) (w2 dEq (wFldC A.c_Row "signs" (wVar 0)) (wFldC A.c_Row "signs" (wVar 1)))))))
def w_law_one (A : Ad) : WS :=
    (sRet (w2 dIx (wVar 1) (wCall0 2 (S_law_draw A) [] (wCons (wVar 0) (wCons (wCB dLen (wCons (wVar 1) wNil)) wNil)))))
def lb_law_table_1 (A : Ad) : WS :=
    (sApp 3 (wCBL lTup (wLc (iRg1 (wCons (w2 dAdd (wVar 1) (wC (.int 1))) wNil)) (gVar 5) wYes (wCall0 2 (S_law_draw A) [] (wCons (wVar 0) (wCons (wVar 2) wNil))) [5])))
def w_law_table (A : Ad) : WS :=
    (sSeq (sAsg 2 (w2 dAdd (wC (.int 1)) (wCall0 2 (S_law_draw A) [] (wCons (wVar 0) (wCons (wC (.int 8)) wNil)))))
    (sSeq (sAsgO 3 (wLstO wNil))
    (sSeq (sFor (iRg1 (wCons (wVar 2) wNil)) (gVar 4) (lb_law_table_1 A))
    (sSeq (sAsg 6 (w2 dAdd (wTup (wCons (wC (.int 0)) wNil)) (wSl (wIxL (wOwn 3) (wC (.int 0))) (wPart (wC (.int 1))) wNoP)))
    (sRet (wTup (wCons (w2 dAdd (wTup (wCons (wVar 6) wNil)) (wCBL lTup (wSlO (wOwn 3) (wPart (wC (.int 1))) wNoP))) (wCons (wJoin (wC (.str "")) (wLc (iRg1 (wCons (wVar 2) wNil)) (gVar 4) wYes (wCall0 2 (S_law_one A) [] (wCons (wVar 0) (wCons (wC (.str "abcmz")) wNil))) [4])) wNil))))))))
def w_check_system (A : Ad) : WS :=
    (sIf (tyNot (wB (wCB (isA (cd A)) (wCons (wVar 0) (wCons (wC (.obj A.c_System)) wNil))))) sNever sNext)
def w_is_integer (A : Ad) : WS :=
    (sRet (wAnd (wCB (isA (cd A)) (wCons (wVar 0) (wCons (wC (.ty "int")) wNil))) (wNot (wCB (isA (cd A)) (wCons (wVar 0) (wCons (wC (.ty "bool")) wNil))))))
def w_is_number (A : Ad) : WS :=
    (sRet (wAnd (wCall0 1 (S_is_integer A) [] (wCons (wVar 0) wNil)) (wAnd (w2 dGe (wVar 0) (wC (.int 0))) (wOr (w2 dIsN (wVar 1) (wC .non)) (w2 dLe (wVar 0) (wVar 1))))))
def lb_are_moves_1 (A : Ad) : WS :=
    (sSeq (sIf (tyOr (tyNot (wB (wCB (isA (cd A)) (wCons (wVar 2) (wCons (wC (.ty "tuple")) wNil))))) (wB (w2 dNe (wCB dLen (wCons (wVar 2) wNil)) (w2 dAdd (wVar 0) (wC (.int 1)))))) (sRet (wC (.bl false))) sNext)
    (sIf (tyNot (wB (wCBL lAll (wLc (iTupW (wVar 2)) (gVar 3) wYes (wCall0 2 (S_is_number A) [] (wCons (wVar 3) (wCons (w2 dSub (wCB dLen (wCons (wVar 1) wNil)) (wC (.int 1))) wNil))) [3])))) (sRet (wC (.bl false))) sNext))
def w_are_moves (A : Ad) : WS :=
    (sSeq (sIf (tyOr (tyNot (wB (wCB (isA (cd A)) (wCons (wVar 1) (wCons (wC (.ty "tuple")) wNil))))) (tyNot (wB (wChain dLe dLe (wC (.int 1)) (wCB dLen (wCons (wVar 1) wNil)) (wC (.int 8)))))) (sRet (wC (.bl false))) sNext)
    (sSeq (sFor (iTupW (wVar 1)) (gVar 2) (lb_are_moves_1 A))
    (sRet (w2 dEq (w2 dIx (w2 dIx (wVar 1) (wC (.int 0))) (wC (.int 0))) (wC (.int 0))))))
def w_are_small (A : Ad) : WS :=
    (sSeq (sIf (tyOr (tyNot (wB (wCB (isA (cd A)) (wCons (wVar 0) (wCons (wC (.ty "str")) wNil))))) (tyNot (wB (wChain dLe dLe (wVar 1) (wCB dLen (wCons (wVar 0) wNil)) (wVar 2))))) (sRet (wC (.bl false))) sNext)
    (sRet (wCBL lAll (wLc (iSt (wVar 0)) (gVar 3) wYes (wChain dLe dLe (wC (.str "a")) (wVar 3) (wC (.str "z"))) [3]))))
def w_Row_init (A : Ad) : WS :=
    (sSeq (sDrop (wCall0 1 (S_check_system A) [] (wCons (wVar 1) wNil)))
    (sSeq (sIf (tyNot (wB (wCall0 2 (S_are_moves A) [] (wCons (wFldC A.c_System "step" (wVar 1)) (wCons (wVar 2) wNil))))) sNever sNext)
    (sSeq (sIf (tyNot (wB (wCall0 3 (S_are_small A) [] (wCons (wVar 3) (wCons (wCB dLen (wCons (wVar 2) wNil)) (wCons (wCB dLen (wCons (wVar 2) wNil)) wNil)))))) sNever sNext)
    (sSeq (sFldI A.c_Row 0 "system" (wVar 1))
    (sSeq (sFldI A.c_Row 0 "moves" (wVar 2))
    (sFldI A.c_Row 0 "signs" (wVar 3)))))))
def w_System_init (A : Ad) : WS :=
    (sSeq (sIf (tyOr (tyNot (wB (wCall0 2 (S_is_number A) [] (wCons (wVar 1) (wCons (wC (.int 3)) wNil))))) (wB (w2 dEq (wVar 1) (wC (.int 0))))) sNever sNext)
    (sFldI A.c_System 0 "step" (wVar 1)))
def w_Row_len (A : Ad) : WS :=
    (sRet (wCB dLen (wCons (wFldC A.c_Row "moves" (wVar 0)) wNil)))
def lb_law_units_1 (A : Ad) : WS :=
    (sApp 2 (w2 dAdd (w2 dMulT (wVar 0) (wIxL (wOwn 2) (w1 dNeg (wC (.int 1))))) (wIxL (wOwn 2) (w1 dNeg (wC (.int 2))))))
def w_law_units (A : Ad) : WS :=
    (sSeq (sAsgO 2 (wLstO (wCons (wC (.int 1)) (wCons (w2 dAdd (wVar 0) (wC (.int 1))) wNil))))
    (sSeq (sFor (iRg1 (wCons (wVar 1) wNil)) (gVar 3) (lb_law_units_1 A))
    (sRet (wFz (wSlO (wOwn 2) wNoP (wPart (wVar 1)))))))
def lb_law_great_1 (A : Ad) : WS :=
    (sAsg 3 (w2 dAdd (w2 dMulT (wVar 3) (wC (.int 10))) (wCall0 2 (S_law_draw A) [] (wCons (wVar 0) (wCons (wC (.int 10)) wNil)))))
def w_law_great (A : Ad) : WS :=
    (sSeq (sPar 2 3 (wCall0 2 (S_law_draw A) [] (wCons (wVar 0) (wCons (wC (.int 5)) wNil))) (wC (.int 0)))
    (sSeq (sIf (wB (w2 dLt (wVar 2) (wC (.int 2)))) (sRet (wCall0 2 (S_law_draw A) [] (wCons (wVar 0) (wCons (wC (.int 90)) wNil)))) sNext)
    (sSeq (sIf (wB (w2 dEq (wVar 2) (wC (.int 2)))) (sRet (w2 dSub (w2 dAdd (w2 dIx (wCall0 2 (S_law_units A) [] (wCons (wVar 1) (wCons (w2 dAdd (wC (.int 4)) (wCall0 2 (S_law_draw A) [] (wCons (wVar 0) (wCons (wC (.int 60)) wNil)))) wNil))) (w1 dNeg (wC (.int 1)))) (wCall0 2 (S_law_draw A) [] (wCons (wVar 0) (wCons (wC (.int 5)) wNil)))) (wC (.int 2)))) sNext)
    (sSeq (sFor (iRg1 (wCons (w2 dAdd (wC (.int 1)) (wCall0 2 (S_law_draw A) [] (wCons (wVar 0) (wCons (wC (.int 40)) wNil)))) wNil)) (gVar 4) (lb_law_great_1 A))
    (sRet (wVar 3))))))
def lb_units_up_to_1 (A : Ad) : WS :=
    (sSeq (sApp 2 (wVar 4))
    (sPar 3 4 (wVar 4) (w2 dAdd (w2 dMulT (wVar 0) (wVar 4)) (wVar 3))))
def w_units_up_to (A : Ad) : WS :=
    (sSeq (sParO3 2 3 4 (wLstO wNil) (wC (.int 1)) (wC (.int 1)))
    (sSeq (sWhile (wB (w2 dLe (wVar 4) (wVar 1))) (lb_units_up_to_1 A))
    (sRetO 2)))
def lb_digits_of_1 (A : Ad) : WS :=
    (sSeq (sApp 2 (w2 dDiv (wVar 3) (wVar 4)))
    (sAsg 3 (w2 dMod (wVar 3) (wVar 4))))
def w_digits_of (A : Ad) : WS :=
    (sSeq (sParO 2 3 (wLstO wNil) (wVar 1))
    (sSeq (sFor (iLst (wRev (wCall0 2 (S_units_up_to A) [] (wCons (wVar 0) (wCons (wVar 1) wNil))))) (gVar 4) (lb_digits_of_1 A))
    (sRet (wCBL lTup (wOwn 2)))))
def lb_sign_at_1 (A : Ad) : WS :=
    (sAsg 2 (w2 dIx (w2 dIx (wFldC A.c_Row "moves" (wVar 0)) (wVar 2)) (wVar 3)))
def w_sign_at (A : Ad) : WS :=
    (sSeq (sAsg 2 (wC (.int 0)))
    (sSeq (sFor (iTupW (wCall0 2 (S_digits_of A) [] (wCons (wFldC A.c_System "step" (wFldC A.c_Row "system" (wVar 0))) (wCons (wVar 1) wNil)))) (gVar 3) (lb_sign_at_1 A))
    (sRet (w2 dIx (wFldC A.c_Row "signs" (wVar 0)) (wVar 2)))))
def w_Row_call (A : Ad) : WS :=
    (sSeq (sIf (tyNot (wB (wCall0 2 (S_is_number A) [] (wCons (wVar 1) (wCons (wC (.int 10000000000000000000000000000000000000000)) wNil))))) sNever sNext)
    (sRet (wCall0 2 (S_sign_at A) [] (wCons (wVar 0) (wCons (wVar 1) wNil)))))
def lb_law_digits_1 (A : Ad) : WS :=
    (sSeq (sAsg 5 (wCBL lLen (wLc (iRg2 (wCons (wC (.int 1)) (wCons (w2 dAdd (wVar 0) (wC (.int 1))) wNil))) (gVar 6) (wB (w2 dLe (w2 dMulT (wVar 6) (wVar 4)) (wVar 3))) (wVar 6) [6])))
    (sSeq (sApp 2 (wVar 5))
    (sAsg 3 (w2 dSub (wVar 3) (w2 dMulT (wVar 5) (wVar 4))))))
def w_law_digits (A : Ad) : WS :=
    (sSeq (sParO 2 3 (wLstO wNil) (wVar 1))
    (sSeq (sFor (iLst (wRev (wFz (wLc (iLst (wCall0 2 (S_law_units A) [] (wCons (wVar 0) (wCons (wC (.int 198)) wNil)))) (gVar 4) (wB (w2 dLe (wVar 4) (wVar 1))) (wVar 4) [4])))) (gVar 4) (lb_law_digits_1 A))
    (sRet (wCBL lTup (wOwn 2)))))
def lb_law_sign_1 (A : Ad) : WS :=
    (sAsg 3 (w2 dIx (w2 dIx (w2 dIx (wVar 1) (wC (.int 0))) (wVar 3)) (wVar 4)))
def w_law_sign (A : Ad) : WS :=
    (sSeq (sAsg 3 (wC (.int 0)))
    (sSeq (sFor (iTupW (wCall0 2 (S_law_digits A) [] (wCons (wVar 0) (wCons (wVar 2) wNil)))) (gVar 4) (lb_law_sign_1 A))
    (sRet (w2 dIx (w2 dIx (wVar 1) (wC (.int 1))) (wVar 3)))))
def lb_law_right_1 (A : Ad) : WS :=
    (sSeq (sAsg 2 (wCall0 2 (S_law_table A) [] (wCons (wVar 0) (wCons (wVar 1) wNil))))
    (sSeq (sAsgG (gTupD [3, 4]) (wTup (wCons (wMake0 A.c_Row 3 (S_Row_init A) [] (wCons (wMake0 A.c_System 1 (S_System_init A) [] (wCons (wVar 1) wNil)) (wCons (w2 dIx (wVar 2) (wC (.int 0))) (wCons (w2 dIx (wVar 2) (wC (.int 1))) wNil)))) (wCons (wMakeK0 A.c_Row 3 3 (S_Row_init A) (perm [2, 1, 0]) (wCons (w2 dIx (wVar 2) (wC (.int 1))) (wCons (w2 dIx (wVar 2) (wC (.int 0))) (wCons (wMake0 A.c_System 1 (S_System_init A) [] (wCons (wVar 1) wNil)) wNil)))) wNil))))
    (sSeq (sIf (wB (w2 (dCmpG (cd A) (TT A) 3 true) (wFz (wLstO (wCons (wFldC A.c_Row "system" (wVar 3)) (wCons (wFldC A.c_Row "moves" (wVar 3)) (wCons (wFldC A.c_Row "signs" (wVar 3)) (wCons (wCB (dLenO A.c_Row (S_Row_len A)) (wCons (wVar 3) wNil)) wNil)))))) (wFz (wLstO (wCons (wMake0 A.c_System 1 (S_System_init A) [] (wCons (wVar 1) wNil)) (wCons (w2 dIx (wVar 2) (wC (.int 0))) (wCons (w2 dIx (wVar 2) (wC (.int 1))) (wCons (wCB dLen (wCons (w2 dIx (wVar 2) (wC (.int 0))) wNil)) wNil)))))))) (sRet (wC (.bl false))) sNext)
    (sSeq (sAsg 5 (w2 dAdd (wFz (wLRg1 (wC (.int 40)))) (wFz (wLc (iRg1 (wCons (wC (.int 10)) wNil)) (gVar 6) wYes (wCall0 2 (S_law_great A) [] (wCons (wVar 0) (wCons (wVar 1) wNil))) [6]))))
    (sSeq (sIf (wB (w2 dNe (wFz (wLc (iLst (wVar 5)) (gVar 7) wYes (wCallI0 A.c_Row 2 (S_Row_call A) (wVar 3) (wCons (wVar 7) wNil)) [7])) (wFz (wLc (iLst (wVar 5)) (gVar 7) wYes (wCall0 3 (S_law_sign A) [] (wCons (wVar 1) (wCons (wVar 2) (wCons (wVar 7) wNil)))) [7])))) (sRet (wC (.bl false))) sNext)
    (sSeq (sIf (tyOr (wB (w2 dNe (wCallIK0 A.c_Row 1 2 (S_Row_call A) (pmA [0]) (wVar 3) (wCons (w2 dIx (wVar 5) (w1 dNeg (wC (.int 1)))) wNil)) (wCallI0 A.c_Row 2 (S_Row_call A) (wVar 4) (wCons (w2 dIx (wVar 5) (w1 dNeg (wC (.int 1)))) wNil)))) (tyOr (tyNot (wB (w2 (eqO (cd A) A.c_Row (S_Row_eq A)) (wVar 3) (wVar 4)))) (tyOr (wB (w2 (neO (cd A) A.c_Row (S_Row_eq A)) (wVar 3) (wVar 4))) (wB (w2 (eqO (cd A) A.c_Row (S_Row_eq A)) (wVar 3) (wVar 2)))))) (sRet (wC (.bl false))) sNext)
    (sSeq (sAsg 8 (wCall0 2 (S_law_table A) [] (wCons (wVar 0) (wCons (wVar 1) wNil))))
    (sSeq (sIf (wB (w2 dNe (w2 (eqO (cd A) A.c_Row (S_Row_eq A)) (wVar 3) (wMake0 A.c_Row 3 (S_Row_init A) [] (wCons (wMake0 A.c_System 1 (S_System_init A) [] (wCons (wVar 1) wNil)) (wCons (w2 dIx (wVar 8) (wC (.int 0))) (wCons (w2 dIx (wVar 8) (wC (.int 1))) wNil))))) (w2 dEq (wVar 2) (wVar 8)))) (sRet (wC (.bl false))) sNext)
    (sSeq (sAsg 9 (w2 dAdd (wSl (w2 dIx (wVar 2) (wC (.int 1))) wNoP (wPart (w1 dNeg (wC (.int 1))))) (wIf (wB (w2 dNe (w2 dIx (w2 dIx (wVar 2) (wC (.int 1))) (w1 dNeg (wC (.int 1)))) (wC (.str "q")))) (wC (.str "q")) (wC (.str "r")))))
    (sIf (tyOr (wB (w2 (eqO (cd A) A.c_Row (S_Row_eq A)) (wVar 3) (wMake0 A.c_Row 3 (S_Row_init A) [] (wCons (wMake0 A.c_System 1 (S_System_init A) [] (wCons (wVar 1) wNil)) (wCons (w2 dIx (wVar 2) (wC (.int 0))) (wCons (wVar 9) wNil)))))) (tyNot (wB (w2 (neO (cd A) A.c_Row (S_Row_eq A)) (wVar 3) (wMake0 A.c_Row 3 (S_Row_init A) [] (wCons (wMake0 A.c_System 1 (S_System_init A) [] (wCons (wVar 1) wNil)) (wCons (w2 dIx (wVar 2) (wC (.int 0))) (wCons (wVar 9) wNil)))))))) (sRet (wC (.bl false))) sNext))))))))))
def w_law_right (A : Ad) : WS :=
    (sSeq (sFor (iRg2 (wCons (wC (.int 1)) (wCons (wC (.int 4)) wNil))) (gVar 1) (lb_law_right_1 A))
    (sRet (w2 (neO (cd A) A.c_Row (S_Row_eq A)) (wMake0 A.c_Row 3 (S_Row_init A) [] (wCons (wMake0 A.c_System 1 (S_System_init A) [] (wCons (wC (.int 1)) wNil)) (wCons (wTup (wCons (wTup (wCons (wC (.int 0)) (wCons (wC (.int 0)) wNil))) wNil)) (wCons (wC (.str "a")) wNil)))) (wMake0 A.c_Row 3 (S_Row_init A) [] (wCons (wMake0 A.c_System 1 (S_System_init A) [] (wCons (wC (.int 2)) wNil)) (wCons (wTup (wCons (wTup (wCons (wC (.int 0)) (wCons (wC (.int 0)) (wCons (wC (.int 0)) wNil)))) wNil)) (wCons (wC (.str "a")) wNil)))))))
def lb_law_bag_1 (A : Ad) : WS :=
    (sAsg 3 (w2 dMod (wCB dInt (wCons (w2 dAdd (w2 dAdd (w2 dMulT (wVar 3) (wC (.int 29501))) (w2 dMod (wCB dInt (wCons (wVar 4) wNil)) (wC (.int 1000033)))) (w2 dMulT (wC (.int 11)) (wVar 1))) wNil)) (wC (.int 2147483587))))
def w_law_bag (A : Ad) : WS :=
    (sSeq (sPar 2 3 (wIf (wB (w2 dLt (wVar 1) (wCB dLen (wCons (wVar 0) wNil)))) (wCB dInt (wCons (w2 dIx (wVar 0) (wVar 1)) wNil)) (wC (.int 0))) (w2 dMulT (wC (.int 70001)) (w2 dAdd (wVar 1) (wC (.int 5)))))
    (sSeq (sFor (iLst (wSl (wVar 0) wNoP (wPart (wC (.int 7))))) (gVar 4) (lb_law_bag_1 A))
    (sSeq (sAsg 5 (wIf (tyOr (wB (w2 dLt (wVar 2) (wC (.int 0)))) (wB (w2 dGe (wVar 2) (w2 dPow (wC (.int 10)) (wC (.int 15)))))) (wCB dAbs (wCons (wVar 2) wNil)) (wC (.int 0))))
    (sRet (wBag (wLstO (wCons (wVar 5) (wCons (w2 dMod (wCB dInt (wCons (w2 dAdd (wVar 3) (w2 dMulT (wC (.int 40487)) (w2 dMod (wCB dInt (wCons (wVar 2) wNil)) (wC (.int 999961))))) wNil)) (wC (.int 2147483587))) (wCons (wC (.int 0)) wNil)))))))))
def w_law (A : Ad) : WS :=
    (sRet (wCBL lAll (wLc (iRg1 (wCons (wCB dMax2 (wCons (wC (.int 2)) (wCons (wCB dMin2 (wCons (wCB dLen (wCons (wVar 0) wNil)) (wCons (wC (.int 5)) wNil))) wNil))) wNil)) (gVar 1) wYes (wCall0 1 (S_law_right A) [] (wCons (wCall0 2 (S_law_bag A) [] (wCons (wVar 0) (wCons (wVar 1) wNil))) wNil)) [1])))
end Lw
namespace Lw
open PySem L2 DL
/-! ### the units -/
theorem un_0 (k : Int) : un k 0 = 1 := rfl
theorem un_1 (k : Int) : un k 1 = k + 1 := by
  show k * 1 + 1 = k + 1
  omega
theorem un_2 (k : Int) (n : Nat) : un k (n + 2) = k * un k (n + 1) + un k n := rfl
theorem pr_1 (k : Int) (n : Nat) : (pr k (n + 1)).1 = un k n := rfl
theorem pr_eq (k : Int) (n : Nat) : pr k n = ((pr k n).1, un k n) := rfl
theorem un_s (k : Int) (n : Nat) : un k (n + 1) = k * un k n + (pr k n).1 := rfl
theorem pr_pos {k : Int} (h : K3 k) : ∀ n, 1 ≤ (pr k n).1 ∧ (pr k n).1 ≤ un k n
  | 0 => ⟨Int.le_refl _, Int.le_refl _⟩
  | n + 1 => by
    obtain ⟨h1, h2⟩ := pr_pos h n
    have h3 : un k n ≤ k * un k n := by
      have := Int.mul_le_mul_of_nonneg_right h.1 (show 0 ≤ un k n by omega)
      omega
    rw [pr_1, un_s]
    omega
theorem un_pos {k : Int} (h : K3 k) (n : Nat) : 1 ≤ un k n := Int.le_trans (pr_pos h n).1 (pr_pos h n).2
theorem un_lt {k : Int} (h : K3 k) (n : Nat) : un k n < un k (n + 1) := by
  obtain ⟨h1, h2⟩ := pr_pos h n
  have h3 := Int.mul_le_mul_of_nonneg_right h.1 (show 0 ≤ un k n by omega)
  rw [un_s]
  omega
theorem un_le {k : Int} (h : K3 k) (n : Nat) : un k (n + 1) ≤ (k + 1) * un k n := by
  obtain ⟨h1, h2⟩ := pr_pos h n
  rw [un_s, Int.add_mul]
  omega
theorem un_mono {k : Int} (h : K3 k) {i j : Nat} (e : i ≤ j) : un k i ≤ un k j := by
  induction j with
  | zero =>
    have : i = 0 := by omega
    subst this
    exact Int.le_refl _
  | succ j ih =>
    by_cases z : i = j + 1
    · subst z
      exact Int.le_refl _
    · have := ih (by omega)
      have := un_lt h j
      omega
theorem un_4 {k : Int} (h : K3 k) (n : Nat) : un k n ≤ 4 ^ n := by
  induction n with
  | zero => exact Int.le_refl _
  | succ n ih =>
    have h1 := un_le h n
    have h2 : (k + 1) * un k n ≤ 4 * un k n := Int.mul_le_mul_of_nonneg_right (by have := h.2; omega) (by have := un_pos h n; omega)
    rw [Int.pow_succ]
    omega
theorem k3_cases {k : Int} (h : K3 k) : k = 1 ∨ k = 2 ∨ k = 3 := by
  have h1 := h.1
  have h2 := h.2
  omega
theorem un_big {k : Int} (h : K3 k) : (10 : Int) ^ 41 < un k 197 := by
  rcases k3_cases h with rfl | rfl | rfl <;> decide +kernel
theorem lim_ex {k m : Int} (N : Nat) (h : m < un k N) : ∃ j, j ≤ N ∧ Lim k m j := by
  induction N using Nat.strongRecOn with
  | _ N ih =>
    by_cases y : ∀ i, i < N → un k i ≤ m
    · exact ⟨N, Nat.le_refl _, y, h⟩
    · obtain ⟨i, hi⟩ := Classical.not_forall.mp y
      obtain ⟨h1, h2⟩ := Classical.not_imp.mp hi
      obtain ⟨j, h4, h5⟩ := ih i h1 (by omega)
      exact ⟨j, by omega, h5⟩
theorem unL_len (k : Int) (n : Nat) : (unL k n).length = n := by
  unfold unL
  rw [List.length_map, List.length_range]
theorem unL_s (k : Int) (n : Nat) : unL k (n + 1) = unL k n ++ [un k n] := by
  unfold unL
  rw [List.range_succ, List.map_append]
  rfl
/-! ### the defs -/
theorem isT_int (A : Ad) (i : Int) (T : String) (h : T ∈ bts) : isT (cd A) (.int i) T = some (T == "int") := if_pos h
theorem isT_tup (A : Ad) (i : List D) (T : String) (h : T ∈ bts) : isT (cd A) (.tup i) T = some (T == "tuple") := if_pos h
theorem hw_is_integer (A : Ad) : ∀ ds er q, ds.length = 1 → S_is_integer A ds er q → w_is_integer A { nx := fun _ => q .non, rt := q, er := er } (envOf 1 ds) := by
  intro ds er q hlen h
  unfold S_is_integer at h
  split at h
  · rename_i d
    obtain ⟨h, hq⟩ := h
    simp [w_is_integer, wVar, wC, w2, w1, wNil, wCons, wTup, wLstO, wFz, wLk, wOwn, wAnd, wOr, wNot, wB, wYes, wIf, wFldC, wCB, wCBL, wCall0, wMeth0, wMethN0, wMakeK0, wMake0, sSeq, sNext, sNever, sRet, sRetN, sRetO, sIf, sAsg, sAsgO, sPar, sParO, sPar3, sParO3, sAsgG, gTupD, setAll, sAug, sApp, sFldI, tyAnd, tyOr, tyNot, iRg1, iRg2, iLst, iTupW, sFor, dAdd, dSub, dMul, dMulT, dDiv, dMod, dPow, dNeg, dLt, dLe, dGt, dGe, dIsN, DL.isNon, dNotN, dEq, dNe, dIx, dLen, dInt, dAbs, dMax2, dMin2, lLen, lTup, isA, envOf, envI, putD, gVar, wRev, wRevT, wIxL, wSl, wSlO, wNoP, wPart, wBag, okD_int, okD_bl, okD_non, eqD_int, eqD_bl, wipeE, wChain, wCallI0, wCallIK0, iSt, dLenO, wLRg1, wJoin, sDrop]
    cases d <;> simp_all [isT, isI, bts] <;> (try (rw [if_pos h]; exact hq))
  · exact h.elim
theorem hw_is_number (A : Ad) : ∀ ds er q, ds.length = 2 → S_is_number A ds er q → w_is_number A { nx := fun _ => q .non, rt := q, er := er } (envOf 2 ds) := by
  intro ds er q hlen h
  unfold S_is_number at h
  split at h
  · rename_i i m
    simp [w_is_number, wVar, wC, w2, w1, wNil, wCons, wTup, wLstO, wFz, wLk, wOwn, wAnd, wOr, wNot, wB, wYes, wIf, wFldC, wCB, wCBL, wCall0, wMeth0, wMethN0, wMakeK0, wMake0, sSeq, sNext, sNever, sRet, sRetN, sRetO, sIf, sAsg, sAsgO, sPar, sParO, sPar3, sParO3, sAsgG, gTupD, setAll, sAug, sApp, sFldI, tyAnd, tyOr, tyNot, iRg1, iRg2, iLst, iTupW, sFor, dAdd, dSub, dMul, dMulT, dDiv, dMod, dPow, dNeg, dLt, dLe, dGt, dGe, dIsN, DL.isNon, dNotN, dEq, dNe, dIx, dLen, dInt, dAbs, dMax2, dMin2, lLen, lTup, isA, envOf, envI, putD, gVar, wRev, wRevT, wIxL, wSl, wSlO, wNoP, wPart, wBag, okD_int, okD_bl, okD_non, eqD_int, eqD_bl, wipeE, wChain, wCallI0, wCallIK0, iSt, dLenO, wLRg1, wJoin, sDrop, S_is_integer, isT, bts, isI]
    by_cases h0 : 0 ≤ i
    · simp_all
    · have e := decide_eq_false h0
      rw [e] at h ⊢
      exact h
  · exact h.elim
theorem step_look (x : D) : List.lookup ("step" : Str) [(("step" : Str), x)] = some x := by simp [List.lookup]
theorem hw_System_init (A : Ad) : ∀ x ds er q, ds.length = 1 → S_System_init A ds er q → w_System_init A { nx := fun env => ∃ fs, env[0]? = some (.me x A.c_System fs) ∧ q fs, rt := fun _ => False, er := er } (envI 2 x A.c_System ds) := by
  intro x ds er q hlen h
  unfold S_System_init at h
  split at h
  · rename_i k
    obtain ⟨⟨h1, h2⟩, hq⟩ := h
    simp [w_System_init, wVar, wC, w2, w1, wNil, wCons, wTup, wLstO, wFz, wLk, wOwn, wAnd, wOr, wNot, wB, wYes, wIf, wFldC, wCB, wCBL, wCall0, wMeth0, wMethN0, wMakeK0, wMake0, sSeq, sNext, sNever, sRet, sRetN, sRetO, sIf, sAsg, sAsgO, sPar, sParO, sPar3, sParO3, sAsgG, gTupD, setAll, sAug, sApp, sFldI, tyAnd, tyOr, tyNot, iRg1, iRg2, iLst, iTupW, sFor, dAdd, dSub, dMul, dMulT, dDiv, dMod, dPow, dNeg, dLt, dLe, dGt, dGe, dIsN, DL.isNon, dNotN, dEq, dNe, dIx, dLen, dInt, dAbs, dMax2, dMin2, lLen, lTup, isA, envOf, envI, putD, gVar, wRev, wRevT, wIxL, wSl, wSlO, wNoP, wPart, wBag, okD_int, okD_bl, okD_non, eqD_int, eqD_bl, wipeE, wChain, wCallI0, wCallIK0, iSt, dLenO, wLRg1, wJoin, sDrop, S_is_number]
    have h3 : ¬ k = 0 := by omega
    have h4 : 0 ≤ k := by omega
    simp_all
  · exact h.elim
theorem k3_mul {k x : Int} (h : K3 k) : CMul k x := .inl ⟨by have := h.1; omega, by have := h.2; omega⟩
theorem iter_units (A : Ad) {k m : Int} {n : DN} {c d : SV} (hk : K3 k) (j : Nat) (hj : j ≤ 200) (hl : Lim k m j) : ∀ t i : Nat, i + t = j → n.nx [.d (.int k), .d (.int m), .own ((unL k j).map .int), .d (.int (pr k j).1), .d (.int (un k j))] →
    sIter (wB (w2 dLe (wVar 4) (wVar 1))) (lb_units_up_to_1 A) n (t + 1) [.d (.int k), .d (.int m), .own ((unL k i).map .int), .d (.int (pr k i).1), .d (.int (un k i))]
  | 0, i, e, h => by
    have : i = j := by omega
    subst this
    have h2 := hl.2
    rw [sIter]
    simp [wVar, wC, w2, w1, wNil, wCons, wTup, wLstO, wFz, wLk, wOwn, wAnd, wOr, wNot, wB, wYes, wIf, wFldC, wCB, wCBL, wCall0, wMeth0, wMethN0, wMakeK0, wMake0, sSeq, sNext, sNever, sRet, sRetN, sRetO, sIf, sAsg, sAsgO, sPar, sParO, sPar3, sParO3, sAsgG, gTupD, setAll, sAug, sApp, sFldI, tyAnd, tyOr, tyNot, iRg1, iRg2, iLst, iTupW, sFor, dAdd, dSub, dMul, dMulT, dDiv, dMod, dPow, dNeg, dLt, dLe, dGt, dGe, dIsN, DL.isNon, dNotN, dEq, dNe, dIx, dLen, dInt, dAbs, dMax2, dMin2, lLen, lTup, isA, envOf, envI, putD, gVar, wRev, wRevT, wIxL, wSl, wSlO, wNoP, wPart, wBag, okD_int, okD_bl, okD_non, eqD_int, eqD_bl, wipeE, wChain, wCallI0, wCallIK0, iSt, dLenO, wLRg1, wJoin, sDrop]
    exact ⟨fun z => absurd z (by omega), fun _ => h⟩
  | t + 1, i, e, h => by
    have h2 := hl.1 i (by omega)
    have ih := iter_units A (c := c) (d := d) hk j hj hl t (i + 1) (by omega) h
    rw [sIter]
    simp [lb_units_up_to_1, wVar, wC, w2, w1, wNil, wCons, wTup, wLstO, wFz, wLk, wOwn, wAnd, wOr, wNot, wB, wYes, wIf, wFldC, wCB, wCBL, wCall0, wMeth0, wMethN0, wMakeK0, wMake0, sSeq, sNext, sNever, sRet, sRetN, sRetO, sIf, sAsg, sAsgO, sPar, sParO, sPar3, sParO3, sAsgG, gTupD, setAll, sAug, sApp, sFldI, tyAnd, tyOr, tyNot, iRg1, iRg2, iLst, iTupW, sFor, dAdd, dSub, dMul, dMulT, dDiv, dMod, dPow, dNeg, dLt, dLe, dGt, dGe, dIsN, DL.isNon, dNotN, dEq, dNe, dIx, dLen, dInt, dAbs, dMax2, dMin2, lLen, lTup, isA, envOf, envI, putD, gVar, wRev, wRevT, wIxL, wSl, wSlO, wNoP, wPart, wBag, okD_int, okD_bl, okD_non, eqD_int, eqD_bl, wipeE, wChain, wCallI0, wCallIK0, iSt, dLenO, wLRg1, wJoin, sDrop, unL_len]
    refine ⟨fun _ => ⟨by show i < sizeLine; have : (200 : Nat) < sizeLine := by decide
                         omega, .inl (k3_mul hk), ?_⟩, fun z => absurd z (by omega)⟩
    rw [unL_s, List.map_append, pr_1, un_s] at ih
    exact ih
theorem hw_units_up_to (A : Ad) : ∀ ds er q, ds.length = 2 → S_units_up_to A ds er q → w_units_up_to A { nx := fun _ => q .non, rt := q, er := er } (envOf 5 ds) := by
  intro ds er q hlen h
  unfold S_units_up_to at h
  split at h
  · rename_i k m
    obtain ⟨hk, j, hl, hj, hq⟩ := h
    simp [w_units_up_to, wVar, wC, w2, w1, wNil, wCons, wTup, wLstO, wFz, wLk, wOwn, wAnd, wOr, wNot, wB, wYes, wIf, wFldC, wCB, wCBL, wCall0, wMeth0, wMethN0, wMakeK0, wMake0, sSeq, sNext, sNever, sRet, sRetN, sRetO, sIf, sAsg, sAsgO, sPar, sParO, sPar3, sParO3, sAsgG, gTupD, setAll, sAug, sApp, sFldI, tyAnd, tyOr, tyNot, iRg1, iRg2, iLst, iTupW, sFor, dAdd, dSub, dMul, dMulT, dDiv, dMod, dPow, dNeg, dLt, dLe, dGt, dGe, dIsN, DL.isNon, dNotN, dEq, dNe, dIx, dLen, dInt, dAbs, dMax2, dMin2, lLen, lTup, isA, envOf, envI, putD, gVar, wRev, wRevT, wIxL, wSl, wSlO, wNoP, wPart, wBag, okD_int, okD_bl, okD_non, eqD_int, eqD_bl, wipeE, wChain, wCallI0, wCallIK0, iSt, dLenO, wLRg1, wJoin, sDrop]
    refine ⟨j + 1, iter_units A (c := .un) (d := .un) hk j hj hl j 0 (by omega) ?_⟩
    simp [wVar, wC, w2, w1, wNil, wCons, wTup, wLstO, wFz, wLk, wOwn, wAnd, wOr, wNot, wB, wYes, wIf, wFldC, wCB, wCBL, wCall0, wMeth0, wMethN0, wMakeK0, wMake0, sSeq, sNext, sNever, sRet, sRetN, sRetO, sIf, sAsg, sAsgO, sPar, sParO, sPar3, sParO3, sAsgG, gTupD, setAll, sAug, sApp, sFldI, tyAnd, tyOr, tyNot, iRg1, iRg2, iLst, iTupW, sFor, dAdd, dSub, dMul, dMulT, dDiv, dMod, dPow, dNeg, dLt, dLe, dGt, dGe, dIsN, DL.isNon, dNotN, dEq, dNe, dIx, dLen, dInt, dAbs, dMax2, dMin2, lLen, lTup, isA, envOf, envI, putD, gVar, wRev, wRevT, wIxL, wSl, wSlO, wNoP, wPart, wBag, okD_int, okD_bl, okD_non, eqD_int, eqD_bl, wipeE, wChain, wCallI0, wCallIK0, iSt, dLenO, wLRg1, wJoin, sDrop]
    exact hq
  · exact h.elim
theorem loop_digits (A : Ad) {k m : Int} {n : DN} : ∀ (us acc : List Int) (r : Int) (c : SV), (∀ u ∈ us, 0 < u ∧ u ≤ 10 ^ 41) → acc.length + us.length ≤ 1000 →
    (∀ r' c', n.nx [.d (.int k), .d (.int m), .own ((acc ++ gd us r).map .int), .d (.int r'), c']) → sLoop (lb_digits_of_1 A) (gVar 4) n (us.map .int) [.d (.int k), .d (.int m), .own (acc.map .int), .d (.int r), c]
  | [], acc, r, c, _, _, h => by
    have h := h r c
    rw [gd, List.append_nil] at h
    exact h
  | u :: us, acc, r, c, hu, hl, h => by
    obtain ⟨h1, h2⟩ := hu u (by simp)
    have hl2 : (u :: us).length = us.length + 1 := rfl
    have ih := loop_digits A (k := k) (m := m) (n := n) us (acc ++ [r / u]) (r % u) (.d (.int u)) (fun x hx => hu x (by simp [hx])) (by rw [List.length_append]; show acc.length + 1 + us.length ≤ 1000; omega) (fun r' c' => by
      rw [List.append_assoc]
      exact h r' c')
    rw [List.map_cons, sLoop]
    simp [lb_digits_of_1, wVar, wC, w2, w1, wNil, wCons, wTup, wLstO, wFz, wLk, wOwn, wAnd, wOr, wNot, wB, wYes, wIf, wFldC, wCB, wCBL, wCall0, wMeth0, wMethN0, wMakeK0, wMake0, sSeq, sNext, sNever, sRet, sRetN, sRetO, sIf, sAsg, sAsgO, sPar, sParO, sPar3, sParO3, sAsgG, gTupD, setAll, sAug, sApp, sFldI, tyAnd, tyOr, tyNot, iRg1, iRg2, iLst, iTupW, sFor, dAdd, dSub, dMul, dMulT, dDiv, dMod, dPow, dNeg, dLt, dLe, dGt, dGe, dIsN, DL.isNon, dNotN, dEq, dNe, dIx, dLen, dInt, dAbs, dMax2, dMin2, lLen, lTup, isA, envOf, envI, putD, gVar, wRev, wRevT, wIxL, wSl, wSlO, wNoP, wPart, wBag, okD_int, okD_bl, okD_non, eqD_int, eqD_bl, wipeE, wChain, wCallI0, wCallIK0, iSt, dLenO, wLRg1, wJoin, sDrop]
    refine ⟨⟨h1, ?_⟩, by have : (1000 : Nat) < sizeLine := by decide
                         omega, h1, ?_⟩
    · have : u.natAbs < 2 ^ 200 := by omega
      have := (Nat.log2_lt (by omega)).mpr this
      omega
    · rw [List.map_append] at ih
      exact ih
theorem unL_le {k m : Int} {j : Nat} (hk : K3 k) (hl : Lim k m j) (hm : m ≤ 10 ^ 41) : ∀ u ∈ (unL k j).reverse, 0 < u ∧ u ≤ 10 ^ 41 := fun u hu => by
  rw [List.mem_reverse] at hu
  unfold unL at hu
  obtain ⟨i, hi, rfl⟩ := List.mem_map.mp hu
  have := hl.1 i (List.mem_range.mp hi)
  have := un_pos hk i
  omega
theorem hw_digits_of (A : Ad) : ∀ ds er q, ds.length = 2 → S_digits_of A ds er q → w_digits_of A { nx := fun _ => q .non, rt := q, er := er } (envOf 5 ds) := by
  intro ds er q hlen h
  unfold S_digits_of at h
  split at h
  · rename_i k m
    obtain ⟨hk, hm, j, hl, hj, hq⟩ := h
    simp [w_digits_of, wVar, wC, w2, w1, wNil, wCons, wTup, wLstO, wFz, wLk, wOwn, wAnd, wOr, wNot, wB, wYes, wIf, wFldC, wCB, wCBL, wCall0, wMeth0, wMethN0, wMakeK0, wMake0, sSeq, sNext, sNever, sRet, sRetN, sRetO, sIf, sAsg, sAsgO, sPar, sParO, sPar3, sParO3, sAsgG, gTupD, setAll, sAug, sApp, sFldI, tyAnd, tyOr, tyNot, iRg1, iRg2, iLst, iTupW, sFor, dAdd, dSub, dMul, dMulT, dDiv, dMod, dPow, dNeg, dLt, dLe, dGt, dGe, dIsN, DL.isNon, dNotN, dEq, dNe, dIx, dLen, dInt, dAbs, dMax2, dMin2, lLen, lTup, isA, envOf, envI, putD, gVar, wRev, wRevT, wIxL, wSl, wSlO, wNoP, wPart, wBag, okD_int, okD_bl, okD_non, eqD_int, eqD_bl, wipeE, wChain, wCallI0, wCallIK0, iSt, dLenO, wLRg1, wJoin, sDrop, S_units_up_to]
    refine ⟨hk, j, hl, hj, ?_⟩
    rw [← List.map_reverse]
    refine loop_digits A (unL k j).reverse [] m .un (unL_le hk hl hm) (by rw [List.length_reverse, unL_len]; show 0 + j ≤ 1000; omega) (fun r' c' => ?_)
    simp
    exact hq
  · exact h.elim
theorem un_r (k : Int) (n : Nat) : (pr k n).2 = un k n := rfl
theorem hw_System_eq (A : Ad) : ∀ ds er q, ds.length = 2 → S_System_eq A ds er q → w_System_eq A { nx := fun _ => q .non, rt := q, er := er } (envOf 2 ds) := by
  intro ds er q hlen h
  unfold S_System_eq at h
  split at h
  · rename_i x y
    cases x with
    | ins C fs =>
      obtain ⟨rfl, k, rfl, h⟩ := h
      cases y with
      | ins C fs =>
        obtain ⟨rfl, j, rfl, h⟩ := h
        simp [w_System_eq, wVar, wC, w2, w1, wNil, wCons, wTup, wLstO, wFz, wLk, wOwn, wAnd, wOr, wNot, wB, wYes, wIf, wFldC, wCB, wCBL, wCall0, wMeth0, wMethN0, wMakeK0, wMake0, sSeq, sNext, sNever, sRet, sRetN, sRetO, sIf, sAsg, sAsgO, sPar, sParO, sPar3, sParO3, sAsgG, gTupD, setAll, sAug, sApp, sFldI, tyAnd, tyOr, tyNot, iRg1, iRg2, iLst, iTupW, sFor, dAdd, dSub, dMul, dMulT, dDiv, dMod, dPow, dNeg, dLt, dLe, dGt, dGe, dIsN, DL.isNon, dNotN, dEq, dNe, dIx, dLen, dInt, dAbs, dMax2, dMin2, lLen, lTup, isA, envOf, envI, putD, gVar, wRev, wRevT, wIxL, wSl, wSlO, wNoP, wPart, wBag, okD_int, okD_bl, okD_non, eqD_int, eqD_bl, wipeE, wChain, wCallI0, wCallIK0, iSt, dLenO, wLRg1, wJoin, sDrop, isO, cd, cdOf, step_look]
        simpa using h
      | _ =>
        obtain ⟨h1, h2⟩ := h
        simp [w_System_eq, wVar, wC, w2, w1, wNil, wCons, wTup, wLstO, wFz, wLk, wOwn, wAnd, wOr, wNot, wB, wYes, wIf, wFldC, wCB, wCBL, wCall0, wMeth0, wMethN0, wMakeK0, wMake0, sSeq, sNext, sNever, sRet, sRetN, sRetO, sIf, sAsg, sAsgO, sPar, sParO, sPar3, sParO3, sAsgG, gTupD, setAll, sAug, sApp, sFldI, tyAnd, tyOr, tyNot, iRg1, iRg2, iLst, iTupW, sFor, dAdd, dSub, dMul, dMulT, dDiv, dMod, dPow, dNeg, dLt, dLe, dGt, dGe, dIsN, DL.isNon, dNotN, dEq, dNe, dIx, dLen, dInt, dAbs, dMax2, dMin2, lLen, lTup, isA, envOf, envI, putD, gVar, wRev, wRevT, wIxL, wSl, wSlO, wNoP, wPart, wBag, okD_int, okD_bl, okD_non, eqD_int, eqD_bl, wipeE, wChain, wCallI0, wCallIK0, iSt, dLenO, wLRg1, wJoin, sDrop, h1]
        exact h2
    | _ => exact h.elim
  · exact h.elim
theorem eqO_sys (A : Ad) (k j : Int) {q : D → Prop} (h : q (.bl (k == j))) : eqO (cd A) A.c_System (S_System_eq A) (sysD A k) (sysD A j) q := by
  refine ⟨rfl, .inr ⟨_, rfl, ?_⟩, rfl, k, rfl, rfl, j, rfl, h⟩
  simp [cd, cdOf]
theorem neO_sys (A : Ad) (k j : Int) {q : D → Prop} (h : q (.bl (!(k == j)))) : neO (cd A) A.c_System (S_System_eq A) (sysD A k) (sysD A j) q := by
  refine ⟨rfl, .inr ⟨_, rfl, ?_⟩, rfl, k, rfl, rfl, j, rfl, h⟩
  simp [cd, cdOf]
theorem neO_int (A : Ad) (k j : Int) {q : D → Prop} (h : q (.bl true)) : neO (cd A) A.c_System (S_System_eq A) (sysD A k) (.int j) q := by
  have e : isO (cd A) (.int j) A.c_System = some false := by simp [isO, cd, cdOf]
  exact ⟨rfl, .inl e, rfl, k, rfl, e, h⟩
theorem unL_s2 (k : Int) (n : Nat) : unL k (n + 2) = unL k n ++ [un k n, un k (n + 1)] := by
  rw [unL_s, unL_s, List.append_assoc]
  rfl
theorem loop_lunits (A : Ad) {k : Int} {x : SV} {n : DN} {N : Nat} (hk : K3 k) (hN : N ≤ 1000) : ∀ (t i : Nat) (c : SV), i + t = N →
    (∀ c', n.nx [.d (.int k), x, .own ((unL k (N + 2)).map .int), c']) →
    sLoop (lb_law_units_1 A) (gVar 3) n ((List.range' i t).map fun (y : Nat) => D.int (0 + y)) [.d (.int k), x, .own ((unL k (i + 2)).map .int), c]
  | 0, i, c, e, h => by
    have : i = N := by omega
    subst this
    exact h c
  | t + 1, i, c, e, h => by
    have ih := loop_lunits A (x := x) (n := n) hk hN t (i + 1) (.d (.int (0 + i))) (by omega) h
    rw [List.range'_succ, List.map_cons, sLoop]
    have e1 : ∀ k : Int, (unL k (i + 2)).map D.int = (unL k i).map D.int ++ [.int (un k i), .int (un k (i + 1))] := fun k => by
      rw [unL_s2, List.map_append]
      rfl
    have e2 : atD ((unL k (i + 2)).map D.int) (-1) = some (.int (un k (i + 1))) := by
      rw [e1, show ∀ (l : List D) (a b : D), l ++ [a, b] = (l ++ [a]) ++ [b] from fun l a b => by simp]
      exact atD_last
    have e3 : atD ((unL k (i + 2)).map D.int) (-2) = some (.int (un k i)) := by
      rw [e1]
      exact atD_last2
    simp [lb_law_units_1, wVar, wC, w2, w1, wNil, wCons, wTup, wLstO, wFz, wLk, wOwn, wAnd, wOr, wNot, wB, wYes, wIf, wFldC, wCB, wCBL, wCall0, wMeth0, wMethN0, wMakeK0, wMake0, sSeq, sNext, sNever, sRet, sRetN, sRetO, sIf, sAsg, sAsgO, sPar, sParO, sPar3, sParO3, sAsgG, gTupD, setAll, sAug, sApp, sFldI, tyAnd, tyOr, tyNot, iRg1, iRg2, iLst, iTupW, sFor, dAdd, dSub, dMul, dMulT, dDiv, dMod, dPow, dNeg, dLt, dLe, dGt, dGe, dIsN, DL.isNon, dNotN, dEq, dNe, dIx, dLen, dInt, dAbs, dMax2, dMin2, lLen, lTup, isA, envOf, envI, putD, gVar, wRev, wRevT, wIxL, wSl, wSlO, wNoP, wPart, wBag, okD_int, okD_bl, okD_non, eqD_int, eqD_bl, wipeE, wChain, wCallI0, wCallIK0, iSt, dLenO, wLRg1, wJoin, sDrop, unL_len, e2, e3]
    refine ⟨.inl (k3_mul hk), by rw [show sizeLine = 16777216 from rfl]; omega, ?_⟩
    rw [show i + 1 + 2 = (i + 2) + 1 from rfl, unL_s, List.map_append, un_2] at ih
    simp at ih
    exact ih
theorem hw_law_units (A : Ad) : ∀ ds er q, ds.length = 2 → S_law_units A ds er q → w_law_units A { nx := fun _ => q .non, rt := q, er := er } (envOf 4 ds) := by
  intro ds er q hlen h
  unfold S_law_units at h
  split at h
  · rename_i k n
    obtain ⟨hk, h0, hn, hq⟩ := h
    simp [w_law_units, wVar, wC, w2, w1, wNil, wCons, wTup, wLstO, wFz, wLk, wOwn, wAnd, wOr, wNot, wB, wYes, wIf, wFldC, wCB, wCBL, wCall0, wMeth0, wMethN0, wMakeK0, wMake0, sSeq, sNext, sNever, sRet, sRetN, sRetO, sIf, sAsg, sAsgO, sPar, sParO, sPar3, sParO3, sAsgG, gTupD, setAll, sAug, sApp, sFldI, tyAnd, tyOr, tyNot, iRg1, iRg2, iLst, iTupW, sFor, dAdd, dSub, dMul, dMulT, dDiv, dMod, dPow, dNeg, dLt, dLe, dGt, dGe, dIsN, DL.isNon, dNotN, dEq, dNe, dIx, dLen, dInt, dAbs, dMax2, dMin2, lLen, lTup, isA, envOf, envI, putD, gVar, wRev, wRevT, wIxL, wSl, wSlO, wNoP, wPart, wBag, okD_int, okD_bl, okD_non, eqD_int, eqD_bl, wipeE, wChain, wCallI0, wCallIK0, iSt, dLenO, wLRg1, wJoin, sDrop]
    obtain ⟨m, rfl⟩ := Int.eq_ofNat_of_zero_le h0
    refine ⟨by decide, by omega, by omega, ?_⟩
    rw [rngD_eq]
    have e : [D.int 1, D.int (k + 1)] = (unL k (0 + 2)).map D.int := by
      rw [unL_s2]
      simp [unL, un_0, un_1]
    rw [e]
    refine loop_lunits A (N := m) hk (by omega) m 0 .un (by omega) fun c' => ?_
    simp [wVar, wC, w2, w1, wNil, wCons, wTup, wLstO, wFz, wLk, wOwn, wAnd, wOr, wNot, wB, wYes, wIf, wFldC, wCB, wCBL, wCall0, wMeth0, wMethN0, wMakeK0, wMake0, sSeq, sNext, sNever, sRet, sRetN, sRetO, sIf, sAsg, sAsgO, sPar, sParO, sPar3, sParO3, sAsgG, gTupD, setAll, sAug, sApp, sFldI, tyAnd, tyOr, tyNot, iRg1, iRg2, iLst, iTupW, sFor, dAdd, dSub, dMul, dMulT, dDiv, dMod, dPow, dNeg, dLt, dLe, dGt, dGe, dIsN, DL.isNon, dNotN, dEq, dNe, dIx, dLen, dInt, dAbs, dMax2, dMin2, lLen, lTup, isA, envOf, envI, putD, gVar, wRev, wRevT, wIxL, wSl, wSlO, wNoP, wPart, wBag, okD_int, okD_bl, okD_non, eqD_int, eqD_bl, wipeE, wChain, wCallI0, wCallIK0, iSt, dLenO, wLRg1, wJoin, sDrop, cutD_to]
    have e2 : (unL k (m + 2)).take m = unL k m := by
      rw [unL_s2]
      have := unL_len k m
      rw [List.take_append_of_le_length (by omega), List.take_of_length_le (by omega)]
    rw [← List.map_take, e2]
    exact hq
  · exact h.elim
theorem loop_bag (A : Ad) {x y cell : SV} {k : Int} {n : DN} : ∀ (l : List Int) (seed : Int) (c : SV), (∀ seed c, n.nx [x, .d (.int k), cell, .d (.int seed), c, .un]) →
    sLoop (lb_law_bag_1 A) (gVar 4) n (l.map .int) [x, .d (.int k), cell, .d (.int seed), c, .un]
  | [], seed, c, h => h seed c
  | d :: l, seed, c, h => by
    have ih := fun seed c => loop_bag A (x := x) (y := y) (cell := cell) (k := k) (n := n) l seed c h
    rw [List.map_cons, sLoop]
    simp [lb_law_bag_1, wVar, wC, w2, w1, wNil, wCons, wTup, wLstO, wFz, wLk, wOwn, wAnd, wOr, wNot, wB, wYes, wIf, wFldC, wCB, wCBL, wCall0, wMeth0, wMethN0, wMakeK0, wMake0, sSeq, sNext, sNever, sRet, sRetN, sRetO, sIf, sAsg, sAsgO, sPar, sParO, sPar3, sParO3, sAsgG, gTupD, setAll, sAug, sApp, sFldI, tyAnd, tyOr, tyNot, iRg1, iRg2, iLst, iTupW, sFor, dAdd, dSub, dMul, dMulT, dDiv, dMod, dPow, dNeg, dLt, dLe, dGt, dGe, dIsN, DL.isNon, dNotN, dEq, dNe, dIx, dLen, dInt, dAbs, dMax2, dMin2, lLen, lTup, isA, envOf, envI, putD, gVar, wRev, wRevT, wIxL, wSl, wSlO, wNoP, wPart, wBag, okD_int, okD_bl, okD_non, eqD_int, eqD_bl, wipeE, wChain, wCallI0, wCallIK0, iSt, dLenO, wLRg1, wJoin, sDrop]
    exact ⟨.inl (.inr (by decide)), .inl (.inl (by decide)), ih _ _⟩
theorem hw_law_bag (A : Ad) : ∀ ds er q, ds.length = 2 → S_law_bag A ds er q → w_law_bag A { nx := fun _ => q .non, rt := q, er := er } (envOf 6 ds) := by
  intro ds er q hlen h
  unfold S_law_bag at h
  split at h
  · rename_i ns k
    obtain ⟨h0, hq⟩ := h
    simp [w_law_bag, wVar, wC, w2, w1, wNil, wCons, wTup, wLstO, wFz, wLk, wOwn, wAnd, wOr, wNot, wB, wYes, wIf, wFldC, wCB, wCBL, wCall0, wMeth0, wMethN0, wMakeK0, wMake0, sSeq, sNext, sNever, sRet, sRetN, sRetO, sIf, sAsg, sAsgO, sPar, sParO, sPar3, sParO3, sAsgG, gTupD, setAll, sAug, sApp, sFldI, tyAnd, tyOr, tyNot, iRg1, iRg2, iLst, iTupW, sFor, dAdd, dSub, dMul, dMulT, dDiv, dMod, dPow, dNeg, dLt, dLe, dGt, dGe, dIsN, DL.isNon, dNotN, dEq, dNe, dIx, dLen, dInt, dAbs, dMax2, dMin2, lLen, lTup, isA, envOf, envI, putD, gVar, wRev, wRevT, wIxL, wSl, wSlO, wNoP, wPart, wBag, okD_int, okD_bl, okD_non, eqD_int, eqD_bl, wipeE, wChain, wCallI0, wCallIK0, iSt, dLenO, wLRg1, wJoin, sDrop]
    have e7 : cutD ns none (some 7) = ns.take 7 := cutD_to (n := 7)
    have fin : ∀ cell seed : Int, 0 ≤ (seed + 40487 * (cell % 999961)) % 2147483587 := fun cell seed => Int.emod_nonneg _ (by decide)
    refine ⟨fun h => ?_, fun h => ?_⟩
    · obtain ⟨k, rfl⟩ := Int.eq_ofNat_of_zero_le h0
      rw [atD_nat, List.getElem?_eq_getElem (by omega)]
      refine ⟨.inl (.inl (by decide)), ?_⟩
      simp only [dSl]
      rw [e7]
      refine loop_bag A (y := .un) _ _ _ fun seed c => ?_
      simp [wVar, wC, w2, w1, wNil, wCons, wTup, wLstO, wFz, wLk, wOwn, wAnd, wOr, wNot, wB, wYes, wIf, wFldC, wCB, wCBL, wCall0, wMeth0, wMethN0, wMakeK0, wMake0, sSeq, sNext, sNever, sRet, sRetN, sRetO, sIf, sAsg, sAsgO, sPar, sParO, sPar3, sParO3, sAsgG, gTupD, setAll, sAug, sApp, sFldI, tyAnd, tyOr, tyNot, iRg1, iRg2, iLst, iTupW, sFor, dAdd, dSub, dMul, dMulT, dDiv, dMod, dPow, dNeg, dLt, dLe, dGt, dGe, dIsN, DL.isNon, dNotN, dEq, dNe, dIx, dLen, dInt, dAbs, dMax2, dMin2, lLen, lTup, isA, envOf, envI, putD, gVar, wRev, wRevT, wIxL, wSl, wSlO, wNoP, wPart, wBag, okD_int, okD_bl, okD_non, eqD_int, eqD_bl, wipeE, wChain, wCallI0, wCallIK0, iSt, dLenO, wLRg1, wJoin, sDrop]
      generalize ns[k] = cell
      exact ⟨fun hc => ⟨.inl (.inl (by decide)), by decide, ⟨by split <;> omega, fin _ _⟩, hq⟩, fun hc => ⟨⟨by decide, by decide, by decide⟩, fun _ => ⟨.inl (.inl (by decide)), by decide, ⟨by split <;> omega, fin _ _⟩, hq⟩, fun _ => ⟨.inl (.inl (by decide)), by decide, fin _ _, hq⟩⟩⟩
    · refine ⟨.inl (.inl (by decide)), ?_⟩
      simp only [dSl]
      rw [e7]
      refine loop_bag A (y := .un) _ _ _ fun seed c => ?_
      simp [wVar, wC, w2, w1, wNil, wCons, wTup, wLstO, wFz, wLk, wOwn, wAnd, wOr, wNot, wB, wYes, wIf, wFldC, wCB, wCBL, wCall0, wMeth0, wMethN0, wMakeK0, wMake0, sSeq, sNext, sNever, sRet, sRetN, sRetO, sIf, sAsg, sAsgO, sPar, sParO, sPar3, sParO3, sAsgG, gTupD, setAll, sAug, sApp, sFldI, tyAnd, tyOr, tyNot, iRg1, iRg2, iLst, iTupW, sFor, dAdd, dSub, dMul, dMulT, dDiv, dMod, dPow, dNeg, dLt, dLe, dGt, dGe, dIsN, DL.isNon, dNotN, dEq, dNe, dIx, dLen, dInt, dAbs, dMax2, dMin2, lLen, lTup, isA, envOf, envI, putD, gVar, wRev, wRevT, wIxL, wSl, wSlO, wNoP, wPart, wBag, okD_int, okD_bl, okD_non, eqD_int, eqD_bl, wipeE, wChain, wCallI0, wCallIK0, iSt, dLenO, wLRg1, wJoin, sDrop]
      exact ⟨⟨by decide, by decide, by decide⟩, .inl (.inl (by decide)), by decide, Int.emod_nonneg _ (by decide), hq⟩
  · exact h.elim
/-! ### digits tell the number -/
theorem dg_s (k m : Int) (j : Nat) : dg k m (j + 1) = (m / un k j) :: dg k (m % un k j) j := by
  unfold dg
  rw [unL_s, List.reverse_append]
  rfl
theorem dg_len (k : Int) : ∀ (j : Nat) (m : Int), (dg k m j).length = j
  | 0, _ => rfl
  | j + 1, m => by
    rw [dg_s, List.length_cons, dg_len k j]
theorem dg_in {k : Int} (hk : K3 k) : ∀ (j : Nat) (m : Int), 0 ≤ m → m < un k j → ∀ d ∈ dg k m j, 0 ≤ d ∧ d ≤ k
  | 0, _, _, _, d, hd => by
    cases hd
  | j + 1, m, h0, h1, d, hd => by
    have hp := un_pos hk j
    rw [dg_s] at hd
    rcases List.mem_cons.mp hd with rfl | hd
    · have h2 := un_le hk j
      have h3 : m / un k j < k + 1 := Int.ediv_lt_of_lt_mul (by omega) (by omega)
      exact ⟨Int.ediv_nonneg h0 (by omega), by omega⟩
    · exact dg_in hk j _ (Int.emod_nonneg _ (by omega)) (Int.emod_lt_of_pos _ (by omega)) d hd
theorem nv_app (k : Int) (d : Int) : ∀ (l : List Int) (f : Int) (i : Nat), nv k f (pr k i).1 (pr k i).2 (l ++ [d]) = nv k f (pr k i).1 (pr k i).2 l + d * un k (i + l.length)
  | [], f, i => rfl
  | x :: l, f, i => by
    have ih := nv_app k d l (f + x * (pr k i).2) (i + 1)
    rw [List.cons_append, nv, nv, List.length_cons, show i + (l.length + 1) = i + 1 + l.length by omega]
    exact ih
theorem nv_dg {k : Int} (hk : K3 k) : ∀ (j : Nat) (m : Int), 0 ≤ m → m < un k j → nv k 0 1 1 (dg k m j).reverse = m
  | 0, m, h0, h1 => by
    have : m = 0 := by
      have : un k 0 = 1 := rfl
      omega
    subst this
    rfl
  | j + 1, m, h0, h1 => by
    have hp := un_pos hk j
    have ih := nv_dg hk j (m % un k j) (Int.emod_nonneg _ (by omega)) (Int.emod_lt_of_pos _ (by omega))
    have h2 := nv_app k (m / un k j) (dg k (m % un k j) j).reverse 0 0
    rw [dg_s, List.reverse_cons]
    have h2 : nv k 0 1 1 ((dg k (m % un k j) j).reverse ++ [m / un k j]) = nv k 0 1 1 (dg k (m % un k j) j).reverse + (m / un k j) * un k (0 + (dg k (m % un k j) j).reverse.length) := h2
    rw [h2, ih, List.length_reverse, dg_len, Nat.zero_add]
    have := Int.emod_add_mul_ediv m (un k j)
    rw [Int.mul_comm] at this
    exact this
theorem nv_0 (k : Int) : ∀ (z : Nat) (f b u : Int), nv k f b u (List.replicate z 0) = f
  | 0, _, _, _ => rfl
  | z + 1, f, b, u => by
    rw [List.replicate_succ, nv, nv_0]
    omega
theorem nv_zeros (k : Int) (z : Nat) : ∀ (l : List Int) (f b u : Int), nv k f b u (l ++ List.replicate z 0) = nv k f b u l
  | [], f, b, u => nv_0 k z f b u
  | x :: l, f, b, u => by
    rw [List.cons_append, nv, nv]
    exact nv_zeros k z l _ _ _
def adj (k : Int) : List Int → Prop
  | [] => True
  | [_] => True
  | a :: b :: r => (a < k ∨ b = 0) ∧ adj k (b :: r)
theorem adj_get {k : Int} : ∀ {l : List Int} {i : Nat} {a b : Int}, adj k l → l[i]? = some a → l[i + 1]? = some b → a < k ∨ b = 0
  | [], _, _, _, _, h, _ => by simp at h
  | [_], i, _, _, _, _, h => by simp at h
  | x :: y :: r, 0, a, b, h, h1, h2 => by
    simp at h1 h2
    subst h1
    subst h2
    exact h.1
  | x :: y :: r, i + 1, a, b, h, h1, h2 => adj_get (l := y :: r) (i := i) h.2 (by simpa using h1) (by simpa using h2)
theorem isDg_of {k : Int} {l : List Int} (h1 : ∀ d ∈ l, 0 ≤ d ∧ d ≤ k) (h2 : adj k l) : isDg k l = true := by
  unfold isDg
  rw [Bool.and_eq_true, List.all_eq_true, List.all_eq_true]
  refine ⟨fun d hd => ?_, fun i hi => ?_⟩
  · have := h1 d hd
    simp [this.1, this.2]
  · have hi := List.mem_range.mp hi
    have e1 : i < l.length := by omega
    have e2 : i + 1 < l.length := by omega
    unfold pairOk
    rw [List.getElem?_eq_getElem e1, List.getElem?_eq_getElem e2]
    have := adj_get h2 (List.getElem?_eq_getElem e1) (List.getElem?_eq_getElem e2)
    simpa using this
theorem adj_0 {k : Int} (hk : K3 k) {l : List Int} (h : adj k l) : adj k (0 :: l) := by
  cases l with
  | nil => trivial
  | cons a l => exact ⟨.inl (by have := hk.1; omega), h⟩
theorem adj_zeros {k : Int} (hk : K3 k) {l : List Int} (h : adj k l) : ∀ z : Nat, adj k (List.replicate z 0 ++ l)
  | 0 => h
  | z + 1 => by
    rw [List.replicate_succ, List.cons_append]
    exact adj_0 hk (adj_zeros hk h z)
theorem adj_dg {k : Int} (hk : K3 k) : ∀ (j : Nat) (m : Int), 0 ≤ m → m < un k j → adj k (dg k m j)
  | 0, _, _, _ => trivial
  | 1, m, h0, h1 => by
    rw [dg_s]
    trivial
  | j + 2, m, h0, h1 => by
    have hp := un_pos hk (j + 1)
    have hp0 := un_pos hk j
    have h2 := Int.emod_nonneg m (b := un k (j + 1)) (by omega)
    have h3 := Int.emod_lt_of_pos m (b := un k (j + 1)) (by omega)
    have ih := adj_dg hk (j + 1) (m % un k (j + 1)) h2 h3
    rw [dg_s]
    rw [dg_s] at ih ⊢
    refine ⟨?_, ih⟩
    by_cases z : m / un k (j + 1) < k
    · exact .inl z
    · refine .inr ?_
      have h4 := Int.emod_add_mul_ediv m (un k (j + 1))
      have h5 : un k (j + 1) * k ≤ un k (j + 1) * (m / un k (j + 1)) := Int.mul_le_mul_of_nonneg_left (by omega) (by omega)
      rw [un_2, Int.mul_comm] at h1
      exact Int.ediv_eq_zero_of_lt h2 (by omega)
/-! ### the law's own digits -/
theorem filter_units {k m : Int} {j : Nat} (hk : K3 k) (hl : Lim k m j) : ∀ N, j ≤ N → (unL k N).filter (fun u => decide (u ≤ m)) = unL k j
  | 0, h => by
    have : j = 0 := by omega
    subst this
    rfl
  | N + 1, h => by
    by_cases z : j = N + 1
    · subst z
      refine List.filter_eq_self.mpr fun u hu => ?_
      unfold unL at hu
      obtain ⟨i, hi, rfl⟩ := List.mem_map.mp hu
      exact decide_eq_true (hl.1 i (List.mem_range.mp hi))
    · rw [unL_s, List.filter_append, filter_units hk hl N (by omega)]
      have := un_mono hk (show j ≤ N by omega)
      have h2 := hl.2
      have e : decide (un k N ≤ m) = false := decide_eq_false (by omega)
      rw [List.filter_cons, e]
      simp
def cnt (k u r : Int) : Nat := ((List.range k.toNat).filter fun (i : Nat) => decide ((1 + (i : Int)) * u ≤ r)).length
theorem cnt_eq {k u r : Int} (hk : K3 k) (hu : 0 < u) (h0 : 0 ≤ r) (h1 : r < (k + 1) * u) : (cnt k u r : Int) = r / u := by
  have a1 := Int.emod_add_mul_ediv r u
  have a2 := Int.emod_nonneg r (b := u) (by omega)
  have a3 := Int.emod_lt_of_pos r hu
  have a4 : r / u < k + 1 := Int.ediv_lt_of_lt_mul hu h1
  have a5 : 0 ≤ r / u := Int.ediv_nonneg h0 (by omega)
  generalize r / u = d at *
  have c : ∀ x : Int, (x * u ≤ r) ↔ x ≤ d := fun x => by
    constructor
    · intro h
      by_cases z : x ≤ d
      · exact z
      · have : (d + 1) * u ≤ x * u := Int.mul_le_mul_of_nonneg_right (by omega) (by omega)
        rw [Int.add_mul, Int.one_mul, Int.mul_comm d u] at this
        omega
    · intro h
      have : x * u ≤ d * u := Int.mul_le_mul_of_nonneg_right h (by omega)
      rw [Int.mul_comm d u] at this
      omega
  unfold cnt
  simp only [c]
  have hd : d = 0 ∨ d = 1 ∨ d = 2 ∨ d = 3 := by
    have := hk.2
    omega
  rcases k3_cases hk with rfl | rfl | rfl <;> rcases hd with rfl | rfl | rfl | rfl <;> first | decide | omega
theorem loop_ldigits (A : Ad) {k : Int} {x : SV} {n : DN} (hk : K3 k) : ∀ (j : Nat) (acc : List Int) (r : Int) (c1 c2 : SV), 0 ≤ r → r < un k j → acc.length + j ≤ 1000 →
    (∀ r' c1 c2, n.nx [.d (.int k), x, .own ((acc ++ dg k r j).map .int), .d (.int r'), c1, c2, .un]) →
    sLoop (lb_law_digits_1 A) (gVar 4) n ((unL k j).reverse.map .int) [.d (.int k), x, .own (acc.map .int), .d (.int r), c1, c2, .un]
  | 0, acc, r, c1, c2, _, _, _, h => by
    have h := h r c1 c2
    rw [show dg k r 0 = [] from rfl, List.append_nil] at h
    exact h
  | j + 1, acc, r, c1, c2, h0, h1, hl, h => by
    have hp := un_pos hk j
    have ih := loop_ldigits A (x := x) (n := n) hk j (acc ++ [r / un k j]) (r % un k j) (.d (.int (un k j))) (.d (.int (r / un k j))) (Int.emod_nonneg _ (by omega)) (Int.emod_lt_of_pos _ (by omega)) (by rw [List.length_append]; show acc.length + 1 + j ≤ 1000; omega) (fun r' c1 c2 => by
      rw [List.append_assoc]
      have := h r' c1 c2
      rw [dg_s] at this
      exact this)
    have hc := cnt_eq hk (u := un k j) (r := r) (by omega) h0 (by have := un_le hk j; omega)
    have h3 := hk.1
    have h4 := hk.2
    rw [unL_s, List.reverse_append, List.reverse_singleton, List.singleton_append, List.map_cons, sLoop]
    simp [lb_law_digits_1, wVar, wC, w2, w1, wNil, wCons, wTup, wLstO, wFz, wLk, wOwn, wAnd, wOr, wNot, wB, wYes, wIf, wFldC, wCB, wCBL, wCall0, wMeth0, wMethN0, wMakeK0, wMake0, sSeq, sNext, sNever, sRet, sRetN, sRetO, sIf, sAsg, sAsgO, sPar, sParO, sPar3, sParO3, sAsgG, gTupD, setAll, sAug, sApp, sFldI, tyAnd, tyOr, tyNot, iRg1, iRg2, iLst, iTupW, sFor, dAdd, dSub, dMul, dMulT, dDiv, dMod, dPow, dNeg, dLt, dLe, dGt, dGe, dIsN, DL.isNon, dNotN, dEq, dNe, dIx, dLen, dInt, dAbs, dMax2, dMin2, lLen, lTup, isA, envOf, envI, putD, gVar, wRev, wRevT, wIxL, wSl, wSlO, wNoP, wPart, wBag, okD_int, okD_bl, okD_non, eqD_int, eqD_bl, wipeE, wChain, wCallI0, wCallIK0, iSt, dLenO, wLRg1, wJoin, sDrop, wLc, rngD]
    have hc' : (((List.range k.toNat).filter fun (i : Nat) => decide ((1 + (i : Int)) * un k j ≤ r)).length : Int) = r / un k j := hc
    refine ⟨⟨by omega, by omega⟩, ?_⟩
    refine comp_ok (c := fun (i : Nat) => D.int (1 + i)) (l := List.range k.toNat) (acc := []) (ev := fun i => [.d (.int k), x, .own (acc.map .int), .d (.int r), .d (.int (un k j)), c2, .d (.int (1 + i))]) (p := fun (i : Nat) => decide ((1 + (i : Int)) * un k j ≤ r)) (f := fun (i : Nat) => .int (1 + i)) ?_ ?_ ?_ ?_ ?_
    · intro i _ Q h
      simpa [gVar] using h
    · intro i hi Q h
      have := List.mem_range.mp hi
      simp [wVar, wC, w2, w1, wNil, wCons, wTup, wLstO, wFz, wLk, wOwn, wAnd, wOr, wNot, wB, wYes, wIf, wFldC, wCB, wCBL, wCall0, wMeth0, wMethN0, wMakeK0, wMake0, sSeq, sNext, sNever, sRet, sRetN, sRetO, sIf, sAsg, sAsgO, sPar, sParO, sPar3, sParO3, sAsgG, gTupD, setAll, sAug, sApp, sFldI, tyAnd, tyOr, tyNot, iRg1, iRg2, iLst, iTupW, sFor, dAdd, dSub, dMul, dMulT, dDiv, dMod, dPow, dNeg, dLt, dLe, dGt, dGe, dIsN, DL.isNon, dNotN, dEq, dNe, dIx, dLen, dInt, dAbs, dMax2, dMin2, lLen, lTup, isA, envOf, envI, putD, gVar, wRev, wRevT, wIxL, wSl, wSlO, wNoP, wPart, wBag, okD_int, okD_bl, okD_non, eqD_int, eqD_bl, wipeE, wChain, wCallI0, wCallIK0, iSt, dLenO, wLRg1, wJoin, sDrop]
      exact ⟨.inl (.inl ⟨by omega, by omega⟩), h⟩
    · intro i _ _ Q h
      simp [wVar, wC, w2, w1, wNil, wCons, wTup, wLstO, wFz, wLk, wOwn, wAnd, wOr, wNot, wB, wYes, wIf, wFldC, wCB, wCBL, wCall0, wMeth0, wMethN0, wMakeK0, wMake0, sSeq, sNext, sNever, sRet, sRetN, sRetO, sIf, sAsg, sAsgO, sPar, sParO, sPar3, sParO3, sAsgG, gTupD, setAll, sAug, sApp, sFldI, tyAnd, tyOr, tyNot, iRg1, iRg2, iLst, iTupW, sFor, dAdd, dSub, dMul, dMulT, dDiv, dMod, dPow, dNeg, dLt, dLe, dGt, dGe, dIsN, DL.isNon, dNotN, dEq, dNe, dIx, dLen, dInt, dAbs, dMax2, dMin2, lLen, lTup, isA, envOf, envI, putD, gVar, wRev, wRevT, wIxL, wSl, wSlO, wNoP, wPart, wBag, okD_int, okD_bl, okD_non, eqD_int, eqD_bl, wipeE, wChain, wCallI0, wCallIK0, iSt, dLenO, wLRg1, wJoin, sDrop]
      exact h
    · rw [List.length_range, show sizeLine = 16777216 from rfl]
      show 0 + k.toNat ≤ _
      omega
    · rw [List.nil_append, List.length_map, hc']
      have e : r - r / un k j * un k j = r % un k j := by
        have := Int.emod_add_mul_ediv r (un k j)
        rw [Int.mul_comm]
        omega
      rw [e]
      have h5 : r / un k j < k + 1 := Int.ediv_lt_of_lt_mul (by omega) (by have := un_le hk j; omega)
      have h6 : 0 ≤ r / un k j := Int.ediv_nonneg h0 (by omega)
      refine ⟨by rw [show sizeLine = 16777216 from rfl]; omega, .inl (.inl ⟨by omega, by omega⟩), ?_⟩
      rw [List.map_append, List.map_reverse] at ih
      exact ih
theorem hw_law_digits (A : Ad) : ∀ ds er q, ds.length = 2 → S_law_digits A ds er q → w_law_digits A { nx := fun _ => q .non, rt := q, er := er } (envOf 7 ds) := by
  intro ds er q hlen h
  unfold S_law_digits at h
  split at h
  · rename_i k m
    obtain ⟨hk, h0, hm, j, hl, hj, hq⟩ := h
    simp [w_law_digits, wVar, wC, w2, w1, wNil, wCons, wTup, wLstO, wFz, wLk, wOwn, wAnd, wOr, wNot, wB, wYes, wIf, wFldC, wCB, wCBL, wCall0, wMeth0, wMethN0, wMakeK0, wMake0, sSeq, sNext, sNever, sRet, sRetN, sRetO, sIf, sAsg, sAsgO, sPar, sParO, sPar3, sParO3, sAsgG, gTupD, setAll, sAug, sApp, sFldI, tyAnd, tyOr, tyNot, iRg1, iRg2, iLst, iTupW, sFor, dAdd, dSub, dMul, dMulT, dDiv, dMod, dPow, dNeg, dLt, dLe, dGt, dGe, dIsN, DL.isNon, dNotN, dEq, dNe, dIx, dLen, dInt, dAbs, dMax2, dMin2, lLen, lTup, isA, envOf, envI, putD, gVar, wRev, wRevT, wIxL, wSl, wSlO, wNoP, wPart, wBag, okD_int, okD_bl, okD_non, eqD_int, eqD_bl, wipeE, wChain, wCallI0, wCallIK0, iSt, dLenO, wLRg1, wJoin, sDrop, S_law_units, wLc]
    refine ⟨hk, comp_ok (c := D.int) (l := unL k 198) (acc := []) (ev := fun u => [.d (.int k), .d (.int m), .own [], .d (.int m), .d (.int u), .un, .un]) (p := fun u => decide (u ≤ m)) (f := D.int) ?_ ?_ ?_ ?_ ?_⟩
    · intro i _ Q h
      simpa [gVar] using h
    · intro i hi Q h
      simp [wVar, wC, w2, w1, wNil, wCons, wTup, wLstO, wFz, wLk, wOwn, wAnd, wOr, wNot, wB, wYes, wIf, wFldC, wCB, wCBL, wCall0, wMeth0, wMethN0, wMakeK0, wMake0, sSeq, sNext, sNever, sRet, sRetN, sRetO, sIf, sAsg, sAsgO, sPar, sParO, sPar3, sParO3, sAsgG, gTupD, setAll, sAug, sApp, sFldI, tyAnd, tyOr, tyNot, iRg1, iRg2, iLst, iTupW, sFor, dAdd, dSub, dMul, dMulT, dDiv, dMod, dPow, dNeg, dLt, dLe, dGt, dGe, dIsN, DL.isNon, dNotN, dEq, dNe, dIx, dLen, dInt, dAbs, dMax2, dMin2, lLen, lTup, isA, envOf, envI, putD, gVar, wRev, wRevT, wIxL, wSl, wSlO, wNoP, wPart, wBag, okD_int, okD_bl, okD_non, eqD_int, eqD_bl, wipeE, wChain, wCallI0, wCallIK0, iSt, dLenO, wLRg1, wJoin, sDrop]
      exact h
    · intro i _ _ Q h
      simp [wVar, wC, w2, w1, wNil, wCons, wTup, wLstO, wFz, wLk, wOwn, wAnd, wOr, wNot, wB, wYes, wIf, wFldC, wCB, wCBL, wCall0, wMeth0, wMethN0, wMakeK0, wMake0, sSeq, sNext, sNever, sRet, sRetN, sRetO, sIf, sAsg, sAsgO, sPar, sParO, sPar3, sParO3, sAsgG, gTupD, setAll, sAug, sApp, sFldI, tyAnd, tyOr, tyNot, iRg1, iRg2, iLst, iTupW, sFor, dAdd, dSub, dMul, dMulT, dDiv, dMod, dPow, dNeg, dLt, dLe, dGt, dGe, dIsN, DL.isNon, dNotN, dEq, dNe, dIx, dLen, dInt, dAbs, dMax2, dMin2, lLen, lTup, isA, envOf, envI, putD, gVar, wRev, wRevT, wIxL, wSl, wSlO, wNoP, wPart, wBag, okD_int, okD_bl, okD_non, eqD_int, eqD_bl, wipeE, wChain, wCallI0, wCallIK0, iSt, dLenO, wLRg1, wJoin, sDrop]
      exact h
    · rw [unL_len, show sizeLine = 16777216 from rfl]
      decide
    · rw [List.nil_append, filter_units hk hl 198 (by omega), ← List.map_reverse]
      refine loop_ldigits A hk j [] m .un .un h0 hl.2 (by show 0 + j ≤ 1000; omega) fun r' c1 c2 => ?_
      simp [wVar, wC, w2, w1, wNil, wCons, wTup, wLstO, wFz, wLk, wOwn, wAnd, wOr, wNot, wB, wYes, wIf, wFldC, wCB, wCBL, wCall0, wMeth0, wMethN0, wMakeK0, wMake0, sSeq, sNext, sNever, sRet, sRetN, sRetO, sIf, sAsg, sAsgO, sPar, sParO, sPar3, sParO3, sAsgG, gTupD, setAll, sAug, sApp, sFldI, tyAnd, tyOr, tyNot, iRg1, iRg2, iLst, iTupW, sFor, dAdd, dSub, dMul, dMulT, dDiv, dMod, dPow, dNeg, dLt, dLe, dGt, dGe, dIsN, DL.isNon, dNotN, dEq, dNe, dIx, dLen, dInt, dAbs, dMax2, dMin2, lLen, lTup, isA, envOf, envI, putD, gVar, wRev, wRevT, wIxL, wSl, wSlO, wNoP, wPart, wBag, okD_int, okD_bl, okD_non, eqD_int, eqD_bl, wipeE, wChain, wCallI0, wCallIK0, iSt, dLenO, wLRg1, wJoin, sDrop]
      exact hq
  · exact h.elim
theorem loop_great (A : Ad) {b : PySem.Addr} {y z : SV} {n : DN} : ∀ (t i : Nat) (f : Int) (c : SV), i + t ≤ 40 → 0 ≤ f → f < 10 ^ i → (∀ f c, 0 ≤ f → f < 10 ^ 40 → n.nx [.d (.bag b), y, z, .d (.int f), c]) →
    sLoop (lb_law_great_1 A) (gVar 4) n ((List.range' i t).map fun (y : Nat) => D.int (0 + y)) [.d (.bag b), y, z, .d (.int f), c]
  | 0, i, f, c, e, h0, h1, h => by
    refine h f c h0 (Int.lt_of_lt_of_le h1 ?_)
    have := Nat.pow_le_pow_right (n := 10) (by decide) (show i ≤ 40 by omega)
    exact_mod_cast this
  | t + 1, i, f, c, e, h0, h1, h => by
    rw [List.range'_succ, List.map_cons, sLoop]
    simp [lb_law_great_1, wVar, wC, w2, w1, wNil, wCons, wTup, wLstO, wFz, wLk, wOwn, wAnd, wOr, wNot, wB, wYes, wIf, wFldC, wCB, wCBL, wCall0, wMeth0, wMethN0, wMakeK0, wMake0, sSeq, sNext, sNever, sRet, sRetN, sRetO, sIf, sAsg, sAsgO, sPar, sParO, sPar3, sParO3, sAsgG, gTupD, setAll, sAug, sApp, sFldI, tyAnd, tyOr, tyNot, iRg1, iRg2, iLst, iTupW, sFor, dAdd, dSub, dMul, dMulT, dDiv, dMod, dPow, dNeg, dLt, dLe, dGt, dGe, dIsN, DL.isNon, dNotN, dEq, dNe, dIx, dLen, dInt, dAbs, dMax2, dMin2, lLen, lTup, isA, envOf, envI, putD, gVar, wRev, wRevT, wIxL, wSl, wSlO, wNoP, wPart, wBag, okD_int, okD_bl, okD_non, eqD_int, eqD_bl, wipeE, wChain, wCallI0, wCallIK0, iSt, dLenO, wLRg1, wJoin, sDrop, S_law_draw, sDraw]
    refine ⟨.inl (.inr (by decide)), fun r hr0 hr1 => ?_⟩
    have ih := loop_great A (b := b) (y := y) (z := z) (n := n) t (i + 1) (f * 10 + r) (.d (.int (0 + i))) (by omega) (by omega) (by rw [Int.pow_succ]; omega) h
    simp at ih
    exact ih
theorem hw_law_great (A : Ad) : ∀ ds er q, ds.length = 2 → S_law_great A ds er q → w_law_great A { nx := fun _ => q .non, rt := q, er := er } (envOf 5 ds) := by
  intro ds er q hlen h
  unfold S_law_great at h
  split at h
  · rename_i b k
    obtain ⟨hk, hq⟩ := h
    simp [w_law_great, wVar, wC, w2, w1, wNil, wCons, wTup, wLstO, wFz, wLk, wOwn, wAnd, wOr, wNot, wB, wYes, wIf, wFldC, wCB, wCBL, wCall0, wMeth0, wMethN0, wMakeK0, wMake0, sSeq, sNext, sNever, sRet, sRetN, sRetO, sIf, sAsg, sAsgO, sPar, sParO, sPar3, sParO3, sAsgG, gTupD, setAll, sAug, sApp, sFldI, tyAnd, tyOr, tyNot, iRg1, iRg2, iLst, iTupW, sFor, dAdd, dSub, dMul, dMulT, dDiv, dMod, dPow, dNeg, dLt, dLe, dGt, dGe, dIsN, DL.isNon, dNotN, dEq, dNe, dIx, dLen, dInt, dAbs, dMax2, dMin2, lLen, lTup, isA, envOf, envI, putD, gVar, wRev, wRevT, wIxL, wSl, wSlO, wNoP, wPart, wBag, okD_int, okD_bl, okD_non, eqD_int, eqD_bl, wipeE, wChain, wCallI0, wCallIK0, iSt, dLenO, wLRg1, wJoin, sDrop, S_law_units, S_law_draw, sDraw]
    intro r h1 h2
    refine ⟨fun h3 r h4 h5 => hq r h4 (by omega), fun h3 => ⟨fun h3 r h4 h5 => ⟨hk, by omega, by omega, ?_⟩, fun h3 r2 h4 h5 => ⟨by omega, by omega, ?_⟩⟩⟩
    · obtain ⟨r, rfl⟩ := Int.eq_ofNat_of_zero_le h4
      have e : (4 + (r : Int)).toNat = (r + 3) + 1 := by omega
      have e2 : atD ((unL k (4 + (r : Int)).toNat).map D.int) (-1) = some (.int (un k (r + 3))) := by
        rw [e, unL_s, List.map_append]
        exact atD_last
      rw [e2]
      intro r3 h6 h7
      have g1 := un_mono hk (show 1 ≤ r + 3 by omega)
      have g2 := un_mono hk (show r + 3 ≤ 62 by omega)
      have g3 := un_4 hk 62
      have g4 : (4 : Int) ^ 62 + 10 ≤ 10 ^ 40 := by decide
      rw [un_1] at g1
      have := hk.1
      exact hq _ (by omega) (by omega)
    · rw [rngD_eq]
      refine loop_great A _ 0 0 .un (by omega) (by decide) (by decide) fun f c h6 h7 => ?_
      simp [wVar, wC, w2, w1, wNil, wCons, wTup, wLstO, wFz, wLk, wOwn, wAnd, wOr, wNot, wB, wYes, wIf, wFldC, wCB, wCBL, wCall0, wMeth0, wMethN0, wMakeK0, wMake0, sSeq, sNext, sNever, sRet, sRetN, sRetO, sIf, sAsg, sAsgO, sPar, sParO, sPar3, sParO3, sAsgG, gTupD, setAll, sAug, sApp, sFldI, tyAnd, tyOr, tyNot, iRg1, iRg2, iLst, iTupW, sFor, dAdd, dSub, dMul, dMulT, dDiv, dMod, dPow, dNeg, dLt, dLe, dGt, dGe, dIsN, DL.isNon, dNotN, dEq, dNe, dIx, dLen, dInt, dAbs, dMax2, dMin2, lLen, lTup, isA, envOf, envI, putD, gVar, wRev, wRevT, wIxL, wSl, wSlO, wNoP, wPart, wBag, okD_int, okD_bl, okD_non, eqD_int, eqD_bl, wipeE, wChain, wCallI0, wCallIK0, iSt, dLenO, wLRg1, wJoin, sDrop]
      exact hq f h6 (Int.le_of_lt h7)
  · exact h.elim
theorem okL_2 {l : List (List Int)} : okL 2 (.lst (l.map fun x => .tup (x.map .int))) := okL_lst fun x hx => by
  obtain ⟨y, _, rfl⟩ := List.mem_map.mp hx
  exact okL_ints y
/-! ### rows -/
theorem mv_at {mv : List (List Int)} {s : Int} (h0 : 0 ≤ s) (h1 : s < mv.length) : atD (mv.map fun l => D.tup (l.map .int)) s = some (.tup ((mv[s.toNat]?.getD []).map .int)) := by
  obtain ⟨s, rfl⟩ := Int.eq_ofNat_of_zero_le h0
  have h : s < mv.length := by omega
  rw [atD_nat, List.getElem?_map, List.getElem?_eq_getElem h]
  simp [h]
theorem ints_at {l : List Int} {s : Int} (h0 : 0 ≤ s) (h1 : s < l.length) : atD (l.map D.int) s = some (.int (l[s.toNat]?.getD 0)) := by
  obtain ⟨s, rfl⟩ := Int.eq_ofNat_of_zero_le h0
  have h : s < l.length := by omega
  rw [atD_nat, List.getElem?_map, List.getElem?_eq_getElem h]
  simp [h]
theorem nats_at {l : List Nat} {s : Int} (h0 : 0 ≤ s) (h1 : s < l.length) : atD l s = some (l[s.toNat]?.getD 0) := by
  obtain ⟨s, rfl⟩ := Int.eq_ofNat_of_zero_le h0
  have h : s < l.length := by omega
  rw [atD_nat, List.getElem?_eq_getElem h]
  simp [h]
theorem getD_in {α : Type} {l : List α} {n : Nat} {a : α} (h : n < l.length) : l[n]?.getD a ∈ l := by
  rw [List.getElem?_eq_getElem h]
  exact List.getElem_mem h
theorem stp_in {k : Int} {mv : List (List Int)} (ok : OkMv k mv) {s d : Int} (h0 : 0 ≤ s) (h1 : s < mv.length) (h2 : 0 ≤ d) (h3 : d ≤ k) : 0 ≤ stp mv s d ∧ stp mv s d < mv.length := by
  have hl : mv[s.toNat]?.getD [] ∈ mv := getD_in (by omega)
  have hw := ok.wd _ hl
  have := ok.st _ hl _ (getD_in (l := mv[s.toNat]?.getD []) (n := d.toNat) (a := 0) (by omega))
  unfold stp
  omega
theorem walk_in {k : Int} {mv : List (List Int)} (ok : OkMv k mv) : ∀ (l : List Int) (s : Int), 0 ≤ s → s < mv.length → (∀ d ∈ l, 0 ≤ d ∧ d ≤ k) → 0 ≤ walk mv s l ∧ walk mv s l < mv.length
  | [], s, h0, h1, _ => ⟨h0, h1⟩
  | d :: l, s, h0, h1, h => by
    obtain ⟨h2, h3⟩ := h d (by simp)
    obtain ⟨h4, h5⟩ := stp_in ok h0 h1 h2 h3
    exact walk_in ok l _ h4 h5 fun y hy => h y (by simp [hy])
theorem str_len {x : PySem.Str} : x.cps.toList.length = x.length := by
  show x.cps.toList.length = x.cps.size
  rw [Array.length_toList]
theorem sys_look (a b c : D) : List.lookup ("system" : PySem.Str) [(("system" : PySem.Str), a), (("moves" : PySem.Str), b), (("signs" : PySem.Str), c)] = some a := by rfl
theorem moves_look (a b c : D) : List.lookup ("moves" : PySem.Str) [(("system" : PySem.Str), a), (("moves" : PySem.Str), b), (("signs" : PySem.Str), c)] = some b := by rfl
theorem signs_look (a b c : D) : List.lookup ("signs" : PySem.Str) [(("system" : PySem.Str), a), (("moves" : PySem.Str), b), (("signs" : PySem.Str), c)] = some c := by rfl
theorem n_sm : ¬ (PySem.Str.ofString "system" = PySem.Str.ofString "moves") := by decide
theorem n_ss : ¬ (PySem.Str.ofString "system" = PySem.Str.ofString "signs") := by decide
theorem n_ms : ¬ (PySem.Str.ofString "moves" = PySem.Str.ofString "signs") := by decide
theorem okL_str {x : PySem.Str} (h : ∀ c ∈ x.cps.toList, c < 1114112) : okL 0 (.str x) := by
  refine ⟨_, rfl, ?_, Nat.le_refl _⟩
  show x.cps.all (fun c => decide (c < 0x110000)) = true
  rw [← Array.all_toList, List.all_eq_true]
  exact fun c hc => decide_eq_true (h c hc)
theorem okL_mv (mv : List (List Int)) : okL 2 (mvD mv) := okL_tup fun x hx => by
  obtain ⟨y, _, rfl⟩ := List.mem_map.mp hx
  exact okL_ints y
theorem hw_check_system (A : Ad) : ∀ ds er q, ds.length = 1 → S_check_system A ds er q → w_check_system A { nx := fun _ => q .non, rt := q, er := er } (envOf 1 ds) := by
  intro ds er q hlen h
  unfold S_check_system at h
  split at h
  · rename_i x
    cases x with
    | ins C fs =>
      obtain ⟨rfl, k, rfl, hq⟩ := h
      simp [w_check_system, wVar, wC, w2, w1, wNil, wCons, wTup, wLstO, wFz, wLk, wOwn, wAnd, wOr, wNot, wB, wYes, wIf, wFldC, wCB, wCBL, wCall0, wMeth0, wMethN0, wMakeK0, wMake0, sSeq, sNext, sNever, sRet, sRetN, sRetO, sIf, sAsg, sAsgO, sPar, sParO, sPar3, sParO3, sAsgG, gTupD, setAll, sAug, sApp, sFldI, tyAnd, tyOr, tyNot, iRg1, iRg2, iLst, iTupW, sFor, dAdd, dSub, dMul, dMulT, dDiv, dMod, dPow, dNeg, dLt, dLe, dGt, dGe, dIsN, DL.isNon, dNotN, dEq, dNe, dIx, dLen, dInt, dAbs, dMax2, dMin2, lLen, lTup, isA, envOf, envI, putD, gVar, wRev, wRevT, wIxL, wSl, wSlO, wNoP, wPart, wBag, okD_int, okD_bl, okD_non, eqD_int, eqD_bl, wipeE, wChain, wCallI0, wCallIK0, iSt, dLenO, wLRg1, wJoin, sDrop, isO, cd, cdOf]
      exact hq
    | _ => exact h.elim
  · exact h.elim
theorem loop_moves (A : Ad) {k : Int} {mv : List (List Int)} {n : DN} (hk : K3 k) (ok : OkMv k mv) : ∀ (l : List (List Int)) (c e : SV), (∀ x ∈ l, x ∈ mv) → (∀ c, n.nx [.d (.int k), .d (mvD mv), c, .un]) →
    sLoop (lb_are_moves_1 A) (gVar 2) n (l.map fun l => D.tup (l.map .int)) [.d (.int k), .d (mvD mv), c, .un]
  | [], c, _, _, h => h c
  | x :: l, c, e, hx, h => by
    have ih := loop_moves A (n := n) hk ok l (.d (.tup (x.map .int))) e (fun y hy => hx y (by simp [hy])) h
    have hm := hx x (by simp)
    have hw := ok.wd x hm
    rw [List.map_cons, sLoop]
    simp [lb_are_moves_1, wVar, wC, w2, w1, wNil, wCons, wTup, wLstO, wFz, wLk, wOwn, wAnd, wOr, wNot, wB, wYes, wIf, wFldC, wCB, wCBL, wCall0, wMeth0, wMethN0, wMakeK0, wMake0, sSeq, sNext, sNever, sRet, sRetN, sRetO, sIf, sAsg, sAsgO, sPar, sParO, sPar3, sParO3, sAsgG, gTupD, setAll, sAug, sApp, sFldI, tyAnd, tyOr, tyNot, iRg1, iRg2, iLst, iTupW, sFor, dAdd, dSub, dMul, dMulT, dDiv, dMod, dPow, dNeg, dLt, dLe, dGt, dGe, dIsN, DL.isNon, dNotN, dEq, dNe, dIx, dLen, dInt, dAbs, dMax2, dMin2, lLen, lTup, isA, envOf, envI, putD, gVar, wRev, wRevT, wIxL, wSl, wSlO, wNoP, wPart, wBag, okD_int, okD_bl, okD_non, eqD_int, eqD_bl, wipeE, wChain, wCallI0, wCallIK0, iSt, dLenO, wLRg1, wJoin, sDrop, isT, bts, wLc, mvD, hw]
    refine DL.comp_map (c := D.int) (l := x) (ev := fun d => [.d (.int k), .d (mvD mv), .d (.tup (x.map .int)), .d (.int d)]) (f := fun d => .bl (decide (0 ≤ d) && decide (d ≤ (mv.length : Int) - 1))) (fun d _ Q h => ?_) (fun d _ Q h => ?_) ?_ ?_
    · simpa [gVar, mvD] using h
    · simp [wVar, wC, w2, w1, wNil, wCons, wTup, wLstO, wFz, wLk, wOwn, wAnd, wOr, wNot, wB, wYes, wIf, wFldC, wCB, wCBL, wCall0, wMeth0, wMethN0, wMakeK0, wMake0, sSeq, sNext, sNever, sRet, sRetN, sRetO, sIf, sAsg, sAsgO, sPar, sParO, sPar3, sParO3, sAsgG, gTupD, setAll, sAug, sApp, sFldI, tyAnd, tyOr, tyNot, iRg1, iRg2, iLst, iTupW, sFor, dAdd, dSub, dMul, dMulT, dDiv, dMod, dPow, dNeg, dLt, dLe, dGt, dGe, dIsN, DL.isNon, dNotN, dEq, dNe, dIx, dLen, dInt, dAbs, dMax2, dMin2, lLen, lTup, isA, envOf, envI, putD, gVar, wRev, wRevT, wIxL, wSl, wSlO, wNoP, wPart, wBag, okD_int, okD_bl, okD_non, eqD_int, eqD_bl, wipeE, wChain, wCallI0, wCallIK0, iSt, dLenO, wLRg1, wJoin, sDrop, S_is_number, mvD]
      simpa using h
    · rw [show sizeLine = 16777216 from rfl]
      have := hk.2
      omega
    · refine all_map _ _ _ ?_
      rw [List.all_eq_true.mpr fun d hd => by have := ok.st x hm d hd; simp; omega]
      exact ⟨(fun z => nomatch z), fun _ => ih⟩
theorem hw_are_moves (A : Ad) : ∀ ds er q, ds.length = 2 → S_are_moves A ds er q → w_are_moves A { nx := fun _ => q .non, rt := q, er := er } (envOf 4 ds) := by
  intro ds er q hlen h
  unfold S_are_moves at h
  split at h
  · rename_i k d
    cases d with
    | tup t =>
      obtain ⟨mv, rfl, hk, ok, hq⟩ := h
      simp [w_are_moves, wVar, wC, w2, w1, wNil, wCons, wTup, wLstO, wFz, wLk, wOwn, wAnd, wOr, wNot, wB, wYes, wIf, wFldC, wCB, wCBL, wCall0, wMeth0, wMethN0, wMakeK0, wMake0, sSeq, sNext, sNever, sRet, sRetN, sRetO, sIf, sAsg, sAsgO, sPar, sParO, sPar3, sParO3, sAsgG, gTupD, setAll, sAug, sApp, sFldI, tyAnd, tyOr, tyNot, iRg1, iRg2, iLst, iTupW, sFor, dAdd, dSub, dMul, dMulT, dDiv, dMod, dPow, dNeg, dLt, dLe, dGt, dGe, dIsN, DL.isNon, dNotN, dEq, dNe, dIx, dLen, dInt, dAbs, dMax2, dMin2, lLen, lTup, isA, envOf, envI, putD, gVar, wRev, wRevT, wIxL, wSl, wSlO, wNoP, wPart, wBag, okD_int, okD_bl, okD_non, eqD_int, eqD_bl, wipeE, wChain, wCallI0, wCallIK0, iSt, dLenO, wLRg1, wJoin, sDrop, isT, bts]
      have h1 := ok.lo
      have h2 := ok.hi
      rw [decide_eq_true (show (1 : Int) ≤ mv.length by omega)]
      refine ⟨fun z => absurd z (by omega), fun _ => ?_⟩
      refine loop_moves A hk ok mv .un .un (fun _ h => h) fun c => ?_
      obtain ⟨l, r, e⟩ := ok.z0
      simp [wVar, wC, w2, w1, wNil, wCons, wTup, wLstO, wFz, wLk, wOwn, wAnd, wOr, wNot, wB, wYes, wIf, wFldC, wCB, wCBL, wCall0, wMeth0, wMethN0, wMakeK0, wMake0, sSeq, sNext, sNever, sRet, sRetN, sRetO, sIf, sAsg, sAsgO, sPar, sParO, sPar3, sParO3, sAsgG, gTupD, setAll, sAug, sApp, sFldI, tyAnd, tyOr, tyNot, iRg1, iRg2, iLst, iTupW, sFor, dAdd, dSub, dMul, dMulT, dDiv, dMod, dPow, dNeg, dLt, dLe, dGt, dGe, dIsN, DL.isNon, dNotN, dEq, dNe, dIx, dLen, dInt, dAbs, dMax2, dMin2, lLen, lTup, isA, envOf, envI, putD, gVar, wRev, wRevT, wIxL, wSl, wSlO, wNoP, wPart, wBag, okD_int, okD_bl, okD_non, eqD_int, eqD_bl, wipeE, wChain, wCallI0, wCallIK0, iSt, dLenO, wLRg1, wJoin, sDrop, mvD, e, atD_0]
      exact hq
    | _ => exact h.elim
  · exact h.elim
theorem hw_are_small (A : Ad) : ∀ ds er q, ds.length = 3 → S_are_small A ds er q → w_are_small A { nx := fun _ => q .non, rt := q, er := er } (envOf 4 ds) := by
  intro ds er q hlen h
  unfold S_are_small at h
  split at h
  · rename_i x a b
    obtain ⟨⟨hx, h1, h2, h3⟩, hq⟩ := h
    simp [w_are_small, wVar, wC, w2, w1, wNil, wCons, wTup, wLstO, wFz, wLk, wOwn, wAnd, wOr, wNot, wB, wYes, wIf, wFldC, wCB, wCBL, wCall0, wMeth0, wMethN0, wMakeK0, wMake0, sSeq, sNext, sNever, sRet, sRetN, sRetO, sIf, sAsg, sAsgO, sPar, sParO, sPar3, sParO3, sAsgG, gTupD, setAll, sAug, sApp, sFldI, tyAnd, tyOr, tyNot, iRg1, iRg2, iLst, iTupW, sFor, dAdd, dSub, dMul, dMulT, dDiv, dMod, dPow, dNeg, dLt, dLe, dGt, dGe, dIsN, DL.isNon, dNotN, dEq, dNe, dIx, dLen, dInt, dAbs, dMax2, dMin2, lLen, lTup, isA, envOf, envI, putD, gVar, wRev, wRevT, wIxL, wSl, wSlO, wNoP, wPart, wBag, okD_int, okD_bl, okD_non, eqD_int, eqD_bl, wipeE, wChain, wCallI0, wCallIK0, iSt, dLenO, wLRg1, wJoin, sDrop, isT, bts, wLc]
    refine ⟨by rw [show sizeLine = 16777216 from rfl]; omega, ?_⟩
    rw [decide_eq_true h1]
    refine ⟨fun z => absurd z (by omega), fun _ => ?_⟩
    refine DL.comp_map (c := fun (c : Nat) => D.str ⟨#[c]⟩) (l := x.cps.toList) (ev := fun c => [.d (.str x), .d (.int a), .d (.int b), .d (.str ⟨#[c]⟩)]) (f := fun _ => .bl true) (fun c _ Q h => ?_) (fun c hc Q h => ?_) ?_ ?_
    · simpa [gVar] using h
    · obtain ⟨e1, e2⟩ := h3 c hc
      have a1 : (PySem.Str.ofString "a").cps.toList = [97] := by decide
      have a2 : (PySem.Str.ofString "z").cps.toList = [122] := by decide
      simp [wVar, wC, w2, w1, wNil, wCons, wTup, wLstO, wFz, wLk, wOwn, wAnd, wOr, wNot, wB, wYes, wIf, wFldC, wCB, wCBL, wCall0, wMeth0, wMethN0, wMakeK0, wMake0, sSeq, sNext, sNever, sRet, sRetN, sRetO, sIf, sAsg, sAsgO, sPar, sParO, sPar3, sParO3, sAsgG, gTupD, setAll, sAug, sApp, sFldI, tyAnd, tyOr, tyNot, iRg1, iRg2, iLst, iTupW, sFor, dAdd, dSub, dMul, dMulT, dDiv, dMod, dPow, dNeg, dLt, dLe, dGt, dGe, dIsN, DL.isNon, dNotN, dEq, dNe, dIx, dLen, dInt, dAbs, dMax2, dMin2, lLen, lTup, isA, envOf, envI, putD, gVar, wRev, wRevT, wIxL, wSl, wSlO, wNoP, wPart, wBag, okD_int, okD_bl, okD_non, eqD_int, eqD_bl, wipeE, wChain, wCallI0, wCallIK0, iSt, dLenO, wLRg1, wJoin, sDrop, a1, a2]
      have g1 : decide ([c] < [97]) = false := decide_eq_false (by rw [List.cons_lt_cons_iff]; simp; omega)
      have g2 : decide ([122] < [c]) = false := decide_eq_false (by rw [List.cons_lt_cons_iff]; simp; omega)
      rw [g1, g2]
      exact h
    · rw [str_len, show sizeLine = 16777216 from rfl]
      omega
    · refine all_map (fun _ => true) _ _ ?_
      rw [all_yes]
      exact hq
  · exact h.elim
theorem hw_Row_init (A : Ad) : ∀ x ds er q, ds.length = 3 → S_Row_init A ds er q → w_Row_init A { nx := fun env => ∃ fs, env[0]? = some (.me x A.c_Row fs) ∧ q fs, rt := fun _ => False, er := er } (envI 4 x A.c_Row ds) := by
  intro x ds er q hlen h
  unfold S_Row_init at h
  split at h
  · rename_i s m y
    cases s with
    | ins C fs =>
      obtain ⟨rfl, k, rfl, h⟩ := h
      cases m with
      | tup t =>
        obtain ⟨mv, rfl, hk, ok, sg, hq⟩ := h
        simp [w_Row_init, wVar, wC, w2, w1, wNil, wCons, wTup, wLstO, wFz, wLk, wOwn, wAnd, wOr, wNot, wB, wYes, wIf, wFldC, wCB, wCBL, wCall0, wMeth0, wMethN0, wMakeK0, wMake0, sSeq, sNext, sNever, sRet, sRetN, sRetO, sIf, sAsg, sAsgO, sPar, sParO, sPar3, sParO3, sAsgG, gTupD, setAll, sAug, sApp, sFldI, tyAnd, tyOr, tyNot, iRg1, iRg2, iLst, iTupW, sFor, dAdd, dSub, dMul, dMulT, dDiv, dMod, dPow, dNeg, dLt, dLe, dGt, dGe, dIsN, DL.isNon, dNotN, dEq, dNe, dIx, dLen, dInt, dAbs, dMax2, dMin2, lLen, lTup, isA, envOf, envI, putD, gVar, wRev, wRevT, wIxL, wSl, wSlO, wNoP, wPart, wBag, okD_int, okD_bl, okD_non, eqD_int, eqD_bl, wipeE, wChain, wCallI0, wCallIK0, iSt, dLenO, wLRg1, wJoin, sDrop, S_check_system, isSys, S_are_moves, isMv, S_are_small, step_look, n_sm, n_ss, n_ms]
        have h1 := sg.1
        have h2 := ok.hi
        refine ⟨mv, rfl, hk, ok, ⟨by omega, by omega, by omega, fun c hc => sg.2 c (by simpa using hc)⟩, hq⟩
      | _ => exact h.elim
    | _ => exact h.elim
  · exact h.elim
theorem hw_Row_len (A : Ad) : ∀ ds er q, ds.length = 1 → S_Row_len A ds er q → w_Row_len A { nx := fun _ => q .non, rt := q, er := er } (envOf 1 ds) := by
  intro ds er q hlen h
  unfold S_Row_len at h
  split at h
  · rename_i r
    cases r with
    | ins C fs =>
      obtain ⟨rfl, k, mv, x, rfl, hq⟩ := h
      simp [w_Row_len, wVar, wC, w2, w1, wNil, wCons, wTup, wLstO, wFz, wLk, wOwn, wAnd, wOr, wNot, wB, wYes, wIf, wFldC, wCB, wCBL, wCall0, wMeth0, wMethN0, wMakeK0, wMake0, sSeq, sNext, sNever, sRet, sRetN, sRetO, sIf, sAsg, sAsgO, sPar, sParO, sPar3, sParO3, sAsgG, gTupD, setAll, sAug, sApp, sFldI, tyAnd, tyOr, tyNot, iRg1, iRg2, iLst, iTupW, sFor, dAdd, dSub, dMul, dMulT, dDiv, dMod, dPow, dNeg, dLt, dLe, dGt, dGe, dIsN, DL.isNon, dNotN, dEq, dNe, dIx, dLen, dInt, dAbs, dMax2, dMin2, lLen, lTup, isA, envOf, envI, putD, gVar, wRev, wRevT, wIxL, wSl, wSlO, wNoP, wPart, wBag, okD_int, okD_bl, okD_non, eqD_int, eqD_bl, wipeE, wChain, wCallI0, wCallIK0, iSt, dLenO, wLRg1, wJoin, sDrop, moves_look, mvD]
      exact hq
    | _ => exact h.elim
  · exact h.elim
theorem loop_sign (A : Ad) {k : Int} {mv : List (List Int)} {x : PySem.Str} {m : SV} {n : DN} (ok : OkMv k mv) : ∀ (l : List Int) (s : Int) (c : SV), 0 ≤ s → s < mv.length → (∀ d ∈ l, 0 ≤ d ∧ d ≤ k) → (∀ c, n.nx [.d (rowD A k mv x), m, .d (.int (walk mv s l)), c]) →
    sLoop (lb_sign_at_1 A) (gVar 3) n (l.map .int) [.d (rowD A k mv x), m, .d (.int s), c]
  | [], s, c, _, _, _, h => h c
  | d :: l, s, c, h0, h1, hd, h => by
    obtain ⟨h2, h3⟩ := hd d (by simp)
    obtain ⟨h4, h5⟩ := stp_in ok h0 h1 h2 h3
    have ih := loop_sign A (x := x) (m := m) (n := n) ok l (stp mv s d) (.d (.int d)) h4 h5 (fun y hy => hd y (by simp [hy])) h
    have hw := ok.wd _ (getD_in (l := mv) (n := s.toNat) (a := []) (by omega))
    rw [List.map_cons, sLoop]
    simp [lb_sign_at_1, wVar, wC, w2, w1, wNil, wCons, wTup, wLstO, wFz, wLk, wOwn, wAnd, wOr, wNot, wB, wYes, wIf, wFldC, wCB, wCBL, wCall0, wMeth0, wMethN0, wMakeK0, wMake0, sSeq, sNext, sNever, sRet, sRetN, sRetO, sIf, sAsg, sAsgO, sPar, sParO, sPar3, sParO3, sAsgG, gTupD, setAll, sAug, sApp, sFldI, tyAnd, tyOr, tyNot, iRg1, iRg2, iLst, iTupW, sFor, dAdd, dSub, dMul, dMulT, dDiv, dMod, dPow, dNeg, dLt, dLe, dGt, dGe, dIsN, DL.isNon, dNotN, dEq, dNe, dIx, dLen, dInt, dAbs, dMax2, dMin2, lLen, lTup, isA, envOf, envI, putD, gVar, wRev, wRevT, wIxL, wSl, wSlO, wNoP, wPart, wBag, okD_int, okD_bl, okD_non, eqD_int, eqD_bl, wipeE, wChain, wCallI0, wCallIK0, iSt, dLenO, wLRg1, wJoin, sDrop, rowD, moves_look, mvD]
    rw [mv_at h0 h1]
    simp only [dIx]
    rw [ints_at h2 (by omega)]
    exact ih
theorem hw_sign_at (A : Ad) : ∀ ds er q, ds.length = 2 → S_sign_at A ds er q → w_sign_at A { nx := fun _ => q .non, rt := q, er := er } (envOf 4 ds) := by
  intro ds er q hlen h
  unfold S_sign_at at h
  split at h
  · rename_i r m
    cases r with
    | ins C fs =>
      obtain ⟨rfl, k, mv, x, rfl, hk, ok, sg, h0, hm, j, hl, hj, hq⟩ := h
      simp [w_sign_at, wVar, wC, w2, w1, wNil, wCons, wTup, wLstO, wFz, wLk, wOwn, wAnd, wOr, wNot, wB, wYes, wIf, wFldC, wCB, wCBL, wCall0, wMeth0, wMethN0, wMakeK0, wMake0, sSeq, sNext, sNever, sRet, sRetN, sRetO, sIf, sAsg, sAsgO, sPar, sParO, sPar3, sParO3, sAsgG, gTupD, setAll, sAug, sApp, sFldI, tyAnd, tyOr, tyNot, iRg1, iRg2, iLst, iTupW, sFor, dAdd, dSub, dMul, dMulT, dDiv, dMod, dPow, dNeg, dLt, dLe, dGt, dGe, dIsN, DL.isNon, dNotN, dEq, dNe, dIx, dLen, dInt, dAbs, dMax2, dMin2, lLen, lTup, isA, envOf, envI, putD, gVar, wRev, wRevT, wIxL, wSl, wSlO, wNoP, wPart, wBag, okD_int, okD_bl, okD_non, eqD_int, eqD_bl, wipeE, wChain, wCallI0, wCallIK0, iSt, dLenO, wLRg1, wJoin, sDrop, sys_look, sysD, step_look, S_digits_of]
      have hd := dg_in hk j m h0 hl.2
      have h1 := ok.lo
      refine ⟨hk, by omega, j, hl, hj, loop_sign A ok (dg k m j) 0 .un (by decide) (by omega) hd fun c => ?_⟩
      have hw := walk_in ok (dg k m j) 0 (by decide) (by omega) hd
      have h2 := ok.hi
      simp [wVar, wC, w2, w1, wNil, wCons, wTup, wLstO, wFz, wLk, wOwn, wAnd, wOr, wNot, wB, wYes, wIf, wFldC, wCB, wCBL, wCall0, wMeth0, wMethN0, wMakeK0, wMake0, sSeq, sNext, sNever, sRet, sRetN, sRetO, sIf, sAsg, sAsgO, sPar, sParO, sPar3, sParO3, sAsgG, gTupD, setAll, sAug, sApp, sFldI, tyAnd, tyOr, tyNot, iRg1, iRg2, iLst, iTupW, sFor, dAdd, dSub, dMul, dMulT, dDiv, dMod, dPow, dNeg, dLt, dLe, dGt, dGe, dIsN, DL.isNon, dNotN, dEq, dNe, dIx, dLen, dInt, dAbs, dMax2, dMin2, lLen, lTup, isA, envOf, envI, putD, gVar, wRev, wRevT, wIxL, wSl, wSlO, wNoP, wPart, wBag, okD_int, okD_bl, okD_non, eqD_int, eqD_bl, wipeE, wChain, wCallI0, wCallIK0, iSt, dLenO, wLRg1, wJoin, sDrop, rowD, signs_look]
      rw [nats_at hw.1 (by rw [str_len, sg.1]; exact hw.2)]
      exact ⟨by rw [sg.1, show sizeLine = 16777216 from rfl]; omega, hq⟩
    | _ => exact h.elim
  · exact h.elim
theorem hw_Row_call (A : Ad) : ∀ ds er q, ds.length = 2 → S_Row_call A ds er q → w_Row_call A { nx := fun _ => q .non, rt := q, er := er } (envOf 2 ds) := by
  intro ds er q hlen h
  unfold S_Row_call at h
  split at h
  · rename_i r m
    cases r with
    | ins C fs =>
      obtain ⟨rfl, k, mv, x, rfl, hk, ok, sg, h0, hm, j, hl, hj, hq⟩ := h
      have hm' : m ≤ 10000000000000000000000000000000000000000 := by omega
      simp [w_Row_call, wVar, wC, w2, w1, wNil, wCons, wTup, wLstO, wFz, wLk, wOwn, wAnd, wOr, wNot, wB, wYes, wIf, wFldC, wCB, wCBL, wCall0, wMeth0, wMethN0, wMakeK0, wMake0, sSeq, sNext, sNever, sRet, sRetN, sRetO, sIf, sAsg, sAsgO, sPar, sParO, sPar3, sParO3, sAsgG, gTupD, setAll, sAug, sApp, sFldI, tyAnd, tyOr, tyNot, iRg1, iRg2, iLst, iTupW, sFor, dAdd, dSub, dMul, dMulT, dDiv, dMod, dPow, dNeg, dLt, dLe, dGt, dGe, dIsN, DL.isNon, dNotN, dEq, dNe, dIx, dLen, dInt, dAbs, dMax2, dMin2, lLen, lTup, isA, envOf, envI, putD, gVar, wRev, wRevT, wIxL, wSl, wSlO, wNoP, wPart, wBag, okD_int, okD_bl, okD_non, eqD_int, eqD_bl, wipeE, wChain, wCallI0, wCallIK0, iSt, dLenO, wLRg1, wJoin, sDrop, S_is_number, S_sign_at, isRow]
      exact ⟨⟨h0, hm'⟩, fun _ _ => ⟨k, mv, x, ⟨⟨rfl, rfl, rfl⟩, hk, ok, sg, h0, by omega, j, hl, hj, hq⟩⟩⟩
    | _ => exact h.elim
  · exact h.elim
theorem ne_rs (A : Ad) : (A.c_Row == A.c_System) = false := beq_eq_false_iff_ne.mpr fun h => by
  have := A.ne
  rw [h] at this
  simp at this
theorem isO_row (A : Ad) (fs : List (PySem.Str × D)) : isO (cd A) (.ins A.c_Row fs) A.c_Row = some true := by
  simp [isO, cd, cdOf, List.lookup, ne_rs]
theorem okEq_row (A : Ad) (fs : List (PySem.Str × D)) : okEq (cd A) A.c_Row (.ins A.c_Row fs) := .inr ⟨_, rfl, by simp [cd, cdOf, List.lookup, ne_rs]⟩
theorem isO_seq (A : Ad) (l : List D) : isO (cd A) (.tup l) A.c_Row = some false := by
  simp [isO, cd, cdOf, List.lookup, ne_rs]
theorem hw_Row_eq (A : Ad) : ∀ ds er q, ds.length = 2 → S_Row_eq A ds er q → w_Row_eq A { nx := fun _ => q .non, rt := q, er := er } (envOf 2 ds) := by
  intro ds er q hlen h
  unfold S_Row_eq at h
  split at h
  · rename_i r y
    cases r with
    | ins C fs =>
      obtain ⟨rfl, k, mv, x, rfl, h⟩ := h
      cases y with
      | ins C fs =>
        obtain ⟨rfl, k2, mv2, x2, rfl, h1, h2, h⟩ := h
        simp [w_Row_eq, wVar, wC, w2, w1, wNil, wCons, wTup, wLstO, wFz, wLk, wOwn, wAnd, wOr, wNot, wB, wYes, wIf, wFldC, wCB, wCBL, wCall0, wMeth0, wMethN0, wMakeK0, wMake0, sSeq, sNext, sNever, sRet, sRetN, sRetO, sIf, sAsg, sAsgO, sPar, sParO, sPar3, sParO3, sAsgG, gTupD, setAll, sAug, sApp, sFldI, tyAnd, tyOr, tyNot, iRg1, iRg2, iLst, iTupW, sFor, dAdd, dSub, dMul, dMulT, dDiv, dMod, dPow, dNeg, dLt, dLe, dGt, dGe, dIsN, DL.isNon, dNotN, dEq, dNe, dIx, dLen, dInt, dAbs, dMax2, dMin2, lLen, lTup, isA, envOf, envI, putD, gVar, wRev, wRevT, wIxL, wSl, wSlO, wNoP, wPart, wBag, okD_int, okD_bl, okD_non, eqD_int, eqD_bl, wipeE, wChain, wCallI0, wCallIK0, iSt, dLenO, wLRg1, wJoin, sDrop, isO_row, sys_look, moves_look, signs_look]
        refine eqO_sys A k k2 ?_
        cases e1 : k == k2 with
        | false =>
          rw [e1] at h
          exact h
        | true =>
          rw [e1] at h
          refine ⟨okD_of (okL_mv _) (by decide), okD_of (okL_mv _) (by decide), ?_⟩
          cases e2 : eqD (mvD mv) (mvD mv2) with
          | false =>
            rw [e2] at h
            exact h
          | true =>
            rw [e2] at h
            exact ⟨okD_of (okL_str h1) (by decide), okD_of (okL_str h2) (by decide), h⟩
      | _ =>
        obtain ⟨h1, h2⟩ := h
        simp [w_Row_eq, wVar, wC, w2, w1, wNil, wCons, wTup, wLstO, wFz, wLk, wOwn, wAnd, wOr, wNot, wB, wYes, wIf, wFldC, wCB, wCBL, wCall0, wMeth0, wMethN0, wMakeK0, wMake0, sSeq, sNext, sNever, sRet, sRetN, sRetO, sIf, sAsg, sAsgO, sPar, sParO, sPar3, sParO3, sAsgG, gTupD, setAll, sAug, sApp, sFldI, tyAnd, tyOr, tyNot, iRg1, iRg2, iLst, iTupW, sFor, dAdd, dSub, dMul, dMulT, dDiv, dMod, dPow, dNeg, dLt, dLe, dGt, dGe, dIsN, DL.isNon, dNotN, dEq, dNe, dIx, dLen, dInt, dAbs, dMax2, dMin2, lLen, lTup, isA, envOf, envI, putD, gVar, wRev, wRevT, wIxL, wSl, wSlO, wNoP, wPart, wBag, okD_int, okD_bl, okD_non, eqD_int, eqD_bl, wipeE, wChain, wCallI0, wCallIK0, iSt, dLenO, wLRg1, wJoin, sDrop, h1]
        exact h2
    | _ => exact h.elim
  · exact h.elim
theorem hw_law_one (A : Ad) : ∀ ds er q, ds.length = 2 → S_law_one A ds er q → w_law_one A { nx := fun _ => q .non, rt := q, er := er } (envOf 2 ds) := by
  intro ds er q hlen h
  unfold S_law_one at h
  split at h
  · rename_i b x
    obtain ⟨h0, h1, hq⟩ := h
    simp [w_law_one, wVar, wC, w2, w1, wNil, wCons, wTup, wLstO, wFz, wLk, wOwn, wAnd, wOr, wNot, wB, wYes, wIf, wFldC, wCB, wCBL, wCall0, wMeth0, wMethN0, wMakeK0, wMake0, sSeq, sNext, sNever, sRet, sRetN, sRetO, sIf, sAsg, sAsgO, sPar, sParO, sPar3, sParO3, sAsgG, gTupD, setAll, sAug, sApp, sFldI, tyAnd, tyOr, tyNot, iRg1, iRg2, iLst, iTupW, sFor, dAdd, dSub, dMul, dMulT, dDiv, dMod, dPow, dNeg, dLt, dLe, dGt, dGe, dIsN, DL.isNon, dNotN, dEq, dNe, dIx, dLen, dInt, dAbs, dMax2, dMin2, lLen, lTup, isA, envOf, envI, putD, gVar, wRev, wRevT, wIxL, wSl, wSlO, wNoP, wPart, wBag, okD_int, okD_bl, okD_non, eqD_int, eqD_bl, wipeE, wChain, wCallI0, wCallIK0, iSt, dLenO, wLRg1, wJoin, sDrop, S_law_draw, sDraw]
    refine ⟨by rw [show sizeLine = 16777216 from rfl]; omega, by omega, by omega, fun r hr0 hr1 => ?_⟩
    rw [nats_at hr0 (by rw [str_len]; exact hr1)]
    exact ⟨by rw [show sizeLine = 16777216 from rfl]; omega, hq _ (getD_in (by rw [str_len]; omega))⟩
  · exact h.elim
theorem loop_table (A : Ad) {b : PySem.Addr} {k : Int} {M : Nat} {c6 : SV} {n : DN} (hk : K3 k) (hM : 1 ≤ M ∧ M ≤ 8) : ∀ (t i : Nat) (mv : List (List Int)) (c : SV), i + t = M → mv.length = i → (∀ l ∈ mv, (l.length : Int) = k + 1 ∧ ∀ s ∈ l, 0 ≤ s ∧ s ≤ (M : Int) - 1) →
    (∀ (mv : List (List Int)) (c : SV), mv.length = M → (∀ l ∈ mv, (l.length : Int) = k + 1 ∧ ∀ s ∈ l, 0 ≤ s ∧ s ≤ (M : Int) - 1) → n.nx [.d (.bag b), .d (.int k), .d (.int M), .own (mv.map fun l => .tup (l.map .int)), c, .un, .un]) →
    sLoop (lb_law_table_1 A) (gVar 4) n ((List.range' i t).map fun (y : Nat) => D.int (0 + y)) [.d (.bag b), .d (.int k), .d (.int M), .own (mv.map fun l => .tup (l.map .int)), c, .un, .un]
  | 0, i, mv, c, e, e2, hm, h => h mv c (by omega) hm
  | t + 1, i, mv, c, e, e2, hm, h => by
    rw [List.range'_succ, List.map_cons, sLoop]
    simp [lb_law_table_1, wVar, wC, w2, w1, wNil, wCons, wTup, wLstO, wFz, wLk, wOwn, wAnd, wOr, wNot, wB, wYes, wIf, wFldC, wCB, wCBL, wCall0, wMeth0, wMethN0, wMakeK0, wMake0, sSeq, sNext, sNever, sRet, sRetN, sRetO, sIf, sAsg, sAsgO, sPar, sParO, sPar3, sParO3, sAsgG, gTupD, setAll, sAug, sApp, sFldI, tyAnd, tyOr, tyNot, iRg1, iRg2, iLst, iTupW, sFor, dAdd, dSub, dMul, dMulT, dDiv, dMod, dPow, dNeg, dLt, dLe, dGt, dGe, dIsN, DL.isNon, dNotN, dEq, dNe, dIx, dLen, dInt, dAbs, dMax2, dMin2, lLen, lTup, isA, envOf, envI, putD, gVar, wRev, wRevT, wIxL, wSl, wSlO, wNoP, wPart, wBag, okD_int, okD_bl, okD_non, eqD_int, eqD_bl, wipeE, wChain, wCallI0, wCallIK0, iSt, dLenO, wLRg1, wJoin, sDrop, wLc, S_law_draw, sDraw]
    have h3 := hk.1
    have h4 := hk.2
    refine ⟨by omega, by omega, ?_⟩
    unfold rngD
    refine comp_any (c := fun (i : Nat) => D.int (0 + i)) (l := List.range (k + 1).toNat) (acc := []) (ev := fun y => [.d (.bag b), .d (.int k), .d (.int M), .own (mv.map fun l => .tup (l.map .int)), .d (.int i), .d (.int (0 + (y : Nat))), .un]) (e := D.int) (R := fun s => 0 ≤ s ∧ s ≤ (M : Int) - 1) (fun y _ Q h => ?_) (fun y _ Q h => ?_) ?_ fun zs hz hr => ?_
    · simpa [gVar] using h
    · simp [wVar, wC, w2, w1, wNil, wCons, wTup, wLstO, wFz, wLk, wOwn, wAnd, wOr, wNot, wB, wYes, wIf, wFldC, wCB, wCBL, wCall0, wMeth0, wMethN0, wMakeK0, wMake0, sSeq, sNext, sNever, sRet, sRetN, sRetO, sIf, sAsg, sAsgO, sPar, sParO, sPar3, sParO3, sAsgG, gTupD, setAll, sAug, sApp, sFldI, tyAnd, tyOr, tyNot, iRg1, iRg2, iLst, iTupW, sFor, dAdd, dSub, dMul, dMulT, dDiv, dMod, dPow, dNeg, dLt, dLe, dGt, dGe, dIsN, DL.isNon, dNotN, dEq, dNe, dIx, dLen, dInt, dAbs, dMax2, dMin2, lLen, lTup, isA, envOf, envI, putD, gVar, wRev, wRevT, wIxL, wSl, wSlO, wNoP, wPart, wBag, okD_int, okD_bl, okD_non, eqD_int, eqD_bl, wipeE, wChain, wCallI0, wCallIK0, iSt, dLenO, wLRg1, wJoin, sDrop, sDraw]
      exact ⟨by omega, by omega, fun r h5 h6 => h r ⟨h5, by omega⟩⟩
    · rw [List.length_range, show sizeLine = 16777216 from rfl]
      show 0 + _ ≤ _
      omega
    · rw [List.length_range] at hz
      refine ⟨by rw [show sizeLine = 16777216 from rfl]; omega, ?_⟩
      have ih := loop_table A (b := b) (c6 := c6) (n := n) hk hM t (i + 1) (mv ++ [zs]) (.d (.int i)) (by omega) (by rw [List.length_append, e2]; rfl) (fun l hl => by
        rcases List.mem_append.mp hl with hl | hl
        · exact hm l hl
        · rw [List.mem_singleton.mp hl]
          exact ⟨by omega, hr⟩) h
      rw [List.map_append] at ih
      simp at ih
      exact ih
theorem hw_law_table (A : Ad) : ∀ ds er q, ds.length = 2 → S_law_table A ds er q → w_law_table A { nx := fun _ => q .non, rt := q, er := er } (envOf 7 ds) := by
  intro ds er q hlen h
  unfold S_law_table at h
  split at h
  · rename_i b k
    obtain ⟨hk, hq⟩ := h
    simp [w_law_table, wVar, wC, w2, w1, wNil, wCons, wTup, wLstO, wFz, wLk, wOwn, wAnd, wOr, wNot, wB, wYes, wIf, wFldC, wCB, wCBL, wCall0, wMeth0, wMethN0, wMakeK0, wMake0, sSeq, sNext, sNever, sRet, sRetN, sRetO, sIf, sAsg, sAsgO, sPar, sParO, sPar3, sParO3, sAsgG, gTupD, setAll, sAug, sApp, sFldI, tyAnd, tyOr, tyNot, iRg1, iRg2, iLst, iTupW, sFor, dAdd, dSub, dMul, dMulT, dDiv, dMod, dPow, dNeg, dLt, dLe, dGt, dGe, dIsN, DL.isNon, dNotN, dEq, dNe, dIx, dLen, dInt, dAbs, dMax2, dMin2, lLen, lTup, isA, envOf, envI, putD, gVar, wRev, wRevT, wIxL, wSl, wSlO, wNoP, wPart, wBag, okD_int, okD_bl, okD_non, eqD_int, eqD_bl, wipeE, wChain, wCallI0, wCallIK0, iSt, dLenO, wLRg1, wJoin, sDrop, S_law_draw, sDraw]
    intro r h1 h2
    obtain ⟨r, rfl⟩ := Int.eq_ofNat_of_zero_le h1
    have e : (1 + (r : Int)).toNat = r + 1 := by omega
    have e2 : (1 + (r : Int)) = ((r + 1 : Nat) : Int) := by omega
    refine ⟨by omega, by omega, ?_⟩
    rw [e, rngD_eq, e2]
    refine loop_table A (M := r + 1) (c6 := .un) hk (by omega) (r + 1) 0 [] .un (by omega) rfl (by simp) fun mv c hl hm => ?_
    cases mv with
    | nil => cases hl
    | cons l0 mv =>
      have c1 : ∀ {α : Type} (xs : List α), cutD xs (some 1) none = xs.drop 1 := fun xs => cutD_from (n := 1)
      simp [wVar, wC, w2, w1, wNil, wCons, wTup, wLstO, wFz, wLk, wOwn, wAnd, wOr, wNot, wB, wYes, wIf, wFldC, wCB, wCBL, wCall0, wMeth0, wMethN0, wMakeK0, wMake0, sSeq, sNext, sNever, sRet, sRetN, sRetO, sIf, sAsg, sAsgO, sPar, sParO, sPar3, sParO3, sAsgG, gTupD, setAll, sAug, sApp, sFldI, tyAnd, tyOr, tyNot, iRg1, iRg2, iLst, iTupW, sFor, dAdd, dSub, dMul, dMulT, dDiv, dMod, dPow, dNeg, dLt, dLe, dGt, dGe, dIsN, DL.isNon, dNotN, dEq, dNe, dIx, dLen, dInt, dAbs, dMax2, dMin2, lLen, lTup, isA, envOf, envI, putD, gVar, wRev, wRevT, wIxL, wSl, wSlO, wNoP, wPart, wBag, okD_int, okD_bl, okD_non, eqD_int, eqD_bl, wipeE, wChain, wCallI0, wCallIK0, iSt, dLenO, wLRg1, wJoin, sDrop, atD_0, dSl, wLc, c1]
      have h0 := hm l0 (by simp)
      have h3 := hk.1
      have h4 := hk.2
      have hl' : mv.length = r := by simpa using hl
      refine ⟨by decide, by rw [show sizeLine = 16777216 from rfl]; omega, by decide, by rw [show sizeLine = 16777216 from rfl]; omega, by omega, by omega, ?_⟩
      unfold rngD
      refine comp_any (c := fun (i : Nat) => D.int (0 + i)) (l := List.range (r + 1)) (acc := []) (ev := fun y => [.d (.bag b), .d (.int k), .d (.int ((r : Int) + 1)), .own (.tup (l0.map .int) :: mv.map fun l => .tup (l.map .int)), .d (.int (0 + (y : Nat))), .un, .d (.tup (.int 0 :: (l0.map D.int).tail))]) (e := ch) (R := fun c => 97 ≤ c ∧ c ≤ 122) (fun y _ Q h => ?_) (fun y _ Q h => ?_) ?_ fun zs hz hr => ?_
      · simpa [gVar] using h
      · simp [wVar, wC, w2, w1, wNil, wCons, wTup, wLstO, wFz, wLk, wOwn, wAnd, wOr, wNot, wB, wYes, wIf, wFldC, wCB, wCBL, wCall0, wMeth0, wMethN0, wMakeK0, wMake0, sSeq, sNext, sNever, sRet, sRetN, sRetO, sIf, sAsg, sAsgO, sPar, sParO, sPar3, sParO3, sAsgG, gTupD, setAll, sAug, sApp, sFldI, tyAnd, tyOr, tyNot, iRg1, iRg2, iLst, iTupW, sFor, dAdd, dSub, dMul, dMulT, dDiv, dMod, dPow, dNeg, dLt, dLe, dGt, dGe, dIsN, DL.isNon, dNotN, dEq, dNe, dIx, dLen, dInt, dAbs, dMax2, dMin2, lLen, lTup, isA, envOf, envI, putD, gVar, wRev, wRevT, wIxL, wSl, wSlO, wNoP, wPart, wBag, okD_int, okD_bl, okD_non, eqD_int, eqD_bl, wipeE, wChain, wCallI0, wCallIK0, iSt, dLenO, wLRg1, wJoin, sDrop, S_law_one]
        have a1 : (PySem.Str.ofString "abcmz").cps = #[97, 98, 99, 109, 122] := by decide
        have a2 : (PySem.Str.ofString "abcmz").length = 5 := by decide
        rw [a1, a2]
        refine ⟨by decide, by decide, fun c hc => h c ?_⟩
        simp at hc
        omega
      · rw [List.length_range, show sizeLine = 16777216 from rfl]
        show 0 + _ ≤ _
        omega
      · rw [List.length_range] at hz
        refine ⟨zs.map fun c => ⟨#[c]⟩, strsD_map _ zs, ?_, by decide, ?_⟩
        · rw [sum_chars, hz, show (PySem.Str.ofString "").length = 0 from by decide]
          omega
        · rw [join_chars]
          have hx : D.tup (D.tup (.int 0 :: (l0.map D.int).tail) :: mv.map fun l => .tup (l.map .int)) = mvD ((0 :: l0.tail) :: mv) := by
            unfold mvD
            simp
          rw [hx]
          have l0l : 1 ≤ l0.length := by omega
          refine hq _ _ ⟨by simp, by simp; omega, fun l hl2 => ?_, fun l hl2 s hs => ?_, ⟨_, _, rfl⟩⟩ ⟨?_, fun c hc => hr c (by simpa using hc)⟩
          · rcases List.mem_cons.mp hl2 with rfl | hl2
            · rw [List.length_cons, List.length_tail]
              omega
            · exact (hm l (by simp [hl2])).1
          · have e9 : (((0 :: l0.tail) :: mv).length : Int) - 1 = r := by simp [hl']
            rw [e9]
            rcases List.mem_cons.mp hl2 with rfl | hl2
            · rcases List.mem_cons.mp hs with rfl | hs
              · omega
              · have := h0.2 s (List.mem_of_mem_tail hs)
                omega
            · have := (hm l (by simp [hl2])).2 s hs
              omega
          · show zs.toArray.size = _
            simp [hz, hl']
  · exact h.elim
theorem loop_lsign (A : Ad) {k : Int} {mv : List (List Int)} {x : PySem.Str} {m : SV} {n : DN} (ok : OkMv k mv) : ∀ (l : List Int) (s : Int) (c : SV), 0 ≤ s → s < mv.length → (∀ d ∈ l, 0 ≤ d ∧ d ≤ k) → (∀ c, n.nx [.d (.int k), .d (.tup [mvD mv, .str x]), m, .d (.int (walk mv s l)), c]) →
    sLoop (lb_law_sign_1 A) (gVar 4) n (l.map .int) [.d (.int k), .d (.tup [mvD mv, .str x]), m, .d (.int s), c]
  | [], s, c, _, _, _, h => h c
  | d :: l, s, c, h0, h1, hd, h => by
    obtain ⟨h2, h3⟩ := hd d (by simp)
    obtain ⟨h4, h5⟩ := stp_in ok h0 h1 h2 h3
    have ih := loop_lsign A (x := x) (m := m) (n := n) ok l (stp mv s d) (.d (.int d)) h4 h5 (fun y hy => hd y (by simp [hy])) h
    have hw := ok.wd _ (getD_in (l := mv) (n := s.toNat) (a := []) (by omega))
    rw [List.map_cons, sLoop]
    simp [lb_law_sign_1, wVar, wC, w2, w1, wNil, wCons, wTup, wLstO, wFz, wLk, wOwn, wAnd, wOr, wNot, wB, wYes, wIf, wFldC, wCB, wCBL, wCall0, wMeth0, wMethN0, wMakeK0, wMake0, sSeq, sNext, sNever, sRet, sRetN, sRetO, sIf, sAsg, sAsgO, sPar, sParO, sPar3, sParO3, sAsgG, gTupD, setAll, sAug, sApp, sFldI, tyAnd, tyOr, tyNot, iRg1, iRg2, iLst, iTupW, sFor, dAdd, dSub, dMul, dMulT, dDiv, dMod, dPow, dNeg, dLt, dLe, dGt, dGe, dIsN, DL.isNon, dNotN, dEq, dNe, dIx, dLen, dInt, dAbs, dMax2, dMin2, lLen, lTup, isA, envOf, envI, putD, gVar, wRev, wRevT, wIxL, wSl, wSlO, wNoP, wPart, wBag, okD_int, okD_bl, okD_non, eqD_int, eqD_bl, wipeE, wChain, wCallI0, wCallIK0, iSt, dLenO, wLRg1, wJoin, sDrop, mvD, atD_0]
    rw [mv_at h0 h1]
    simp only [dIx]
    rw [ints_at h2 (by omega)]
    exact ih
theorem hw_law_sign (A : Ad) : ∀ ds er q, ds.length = 3 → S_law_sign A ds er q → w_law_sign A { nx := fun _ => q .non, rt := q, er := er } (envOf 5 ds) := by
  intro ds er q hlen h
  unfold S_law_sign at h
  split at h
  · rename_i k d x m
    cases d with
    | tup t =>
      obtain ⟨mv, rfl, hk, ok, sg, h0, hm, j, hl, hj, hq⟩ := h
      simp [w_law_sign, wVar, wC, w2, w1, wNil, wCons, wTup, wLstO, wFz, wLk, wOwn, wAnd, wOr, wNot, wB, wYes, wIf, wFldC, wCB, wCBL, wCall0, wMeth0, wMethN0, wMakeK0, wMake0, sSeq, sNext, sNever, sRet, sRetN, sRetO, sIf, sAsg, sAsgO, sPar, sParO, sPar3, sParO3, sAsgG, gTupD, setAll, sAug, sApp, sFldI, tyAnd, tyOr, tyNot, iRg1, iRg2, iLst, iTupW, sFor, dAdd, dSub, dMul, dMulT, dDiv, dMod, dPow, dNeg, dLt, dLe, dGt, dGe, dIsN, DL.isNon, dNotN, dEq, dNe, dIx, dLen, dInt, dAbs, dMax2, dMin2, lLen, lTup, isA, envOf, envI, putD, gVar, wRev, wRevT, wIxL, wSl, wSlO, wNoP, wPart, wBag, okD_int, okD_bl, okD_non, eqD_int, eqD_bl, wipeE, wChain, wCallI0, wCallIK0, iSt, dLenO, wLRg1, wJoin, sDrop, S_law_digits]
      have hd := dg_in hk j m h0 hl.2
      have h1 := ok.lo
      refine ⟨hk, h0, by omega, j, hl, hj, loop_lsign A (x := x) ok (dg k m j) 0 .un (by decide) (by omega) hd fun c => ?_⟩
      have hw := walk_in ok (dg k m j) 0 (by decide) (by omega) hd
      have h2 := ok.hi
      simp [wVar, wC, w2, w1, wNil, wCons, wTup, wLstO, wFz, wLk, wOwn, wAnd, wOr, wNot, wB, wYes, wIf, wFldC, wCB, wCBL, wCall0, wMeth0, wMethN0, wMakeK0, wMake0, sSeq, sNext, sNever, sRet, sRetN, sRetO, sIf, sAsg, sAsgO, sPar, sParO, sPar3, sParO3, sAsgG, gTupD, setAll, sAug, sApp, sFldI, tyAnd, tyOr, tyNot, iRg1, iRg2, iLst, iTupW, sFor, dAdd, dSub, dMul, dMulT, dDiv, dMod, dPow, dNeg, dLt, dLe, dGt, dGe, dIsN, DL.isNon, dNotN, dEq, dNe, dIx, dLen, dInt, dAbs, dMax2, dMin2, lLen, lTup, isA, envOf, envI, putD, gVar, wRev, wRevT, wIxL, wSl, wSlO, wNoP, wPart, wBag, okD_int, okD_bl, okD_non, eqD_int, eqD_bl, wipeE, wChain, wCallI0, wCallIK0, iSt, dLenO, wLRg1, wJoin, sDrop, atD_1]
      rw [nats_at hw.1 (by rw [str_len, sg.1]; exact hw.2)]
      exact ⟨by rw [sg.1, show sizeLine = 16777216 from rfl]; omega, hq⟩
    | _ => exact h.elim
  · exact h.elim
theorem row_init (A : Ad) {k : Int} {mv : List (List Int)} {x : PySem.Str} {er : ER} {q : List (PySem.Str × D) → Prop} (hk : K3 k) (ok : OkMv k mv) (sg : OkSg mv x) (hq : q [("system", sysD A k), ("moves", mvD mv), ("signs", .str x)]) : S_Row_init A [sysD A k, mvD mv, .str x] er q := ⟨rfl, k, rfl, mv, rfl, hk, ok, sg, hq⟩
theorem cps_ok {mv : List (List Int)} {x : PySem.Str} (sg : OkSg mv x) : ∀ c ∈ x.cps.toList, c < 1114112 := fun c hc => by
  have := sg.2 c hc
  omega
theorem eqO_row (A : Ad) {k1 k2 : Int} {m1 m2 : List (List Int)} {x1 x2 : PySem.Str} {q : D → Prop} (s1 : ∀ c ∈ x1.cps.toList, c < 1114112) (s2 : ∀ c ∈ x2.cps.toList, c < 1114112) (h : q (.bl ((k1 == k2) && ((eqD (mvD m1) (mvD m2)) && (eqD (.str x1) (.str x2)))))) : eqO (cd A) A.c_Row (S_Row_eq A) (rowD A k1 m1 x1) (rowD A k2 m2 x2) q :=
  ⟨rfl, okEq_row A _, rfl, k1, m1, x1, rfl, rfl, k2, m2, x2, rfl, s1, s2, h⟩
theorem neO_row (A : Ad) {k1 k2 : Int} {m1 m2 : List (List Int)} {x1 x2 : PySem.Str} {q : D → Prop} (s1 : ∀ c ∈ x1.cps.toList, c < 1114112) (s2 : ∀ c ∈ x2.cps.toList, c < 1114112) (h : q (.bl (!((k1 == k2) && ((eqD (mvD m1) (mvD m2)) && (eqD (.str x1) (.str x2))))))) : neO (cd A) A.c_Row (S_Row_eq A) (rowD A k1 m1 x1) (rowD A k2 m2 x2) q :=
  ⟨rfl, okEq_row A _, rfl, k1, m1, x1, rfl, rfl, k2, m2, x2, rfl, s1, s2, h⟩
theorem eqO_rowT (A : Ad) {k1 : Int} {m1 : List (List Int)} {x1 : PySem.Str} {l : List D} {q : D → Prop} (h : q (.bl false)) : eqO (cd A) A.c_Row (S_Row_eq A) (rowD A k1 m1 x1) (.tup l) q :=
  ⟨rfl, .inl (isO_seq A l), rfl, k1, m1, x1, rfl, isO_seq A l, h⟩
theorem sg_str {mv : List (List Int)} {x : PySem.Str} (sg : OkSg mv x) : eqD (.str x) (.str x) = true := eqD_refl (okL_str (cps_ok sg))
theorem bl_of {b : Bool} {p q : Prop} (e : b = true) (h : q) : (b = false → p) ∧ (b = true → q) := ⟨fun z => absurd (z.symm.trans e) (by decide), fun _ => h⟩
theorem bl_no {b : Bool} {p q : Prop} (e : b = false) (h : q) : (b = true → p) ∧ (b = false → q) := ⟨fun z => absurd (z.symm.trans e) (by decide), fun _ => h⟩
theorem eqO_rowS (A : Ad) {k : Int} {mv : List (List Int)} {x : PySem.Str} {q : D → Prop} (sg : OkSg mv x) (h : q (.bl true)) : eqO (cd A) A.c_Row (S_Row_eq A) (rowD A k mv x) (rowD A k mv x) q := by
  refine eqO_row A (cps_ok sg) (cps_ok sg) ?_
  rw [eqD_refl (okL_mv mv), sg_str sg, beq_self_eq_true]
  exact h
theorem neO_rowS (A : Ad) {k : Int} {mv : List (List Int)} {x : PySem.Str} {q : D → Prop} (sg : OkSg mv x) (h : q (.bl false)) : neO (cd A) A.c_Row (S_Row_eq A) (rowD A k mv x) (rowD A k mv x) q := by
  refine neO_row A (cps_ok sg) (cps_ok sg) ?_
  rw [eqD_refl (okL_mv mv), sg_str sg, beq_self_eq_true]
  exact h
theorem cmp_row (A : Ad) {k : Int} {mv : List (List Int)} {x : PySem.Str} {n n' : Int} {q : D → Prop} (sg : OkSg mv x) (e : n = n') (h : q (.bl false)) : dCmpG (cd A) (TT A) 3 true (.lst [sysD A k, mvD mv, .str x, .int n]) (.lst [sysD A k, mvD mv, .str x, .int n']) q := by
  subst e
  refine ⟨true, ?_, h⟩
  have o1 : okEq (cd A) A.c_System (sysD A k) := .inr ⟨_, rfl, by simp [cd, cdOf, List.lookup]⟩
  have o2 : S_System_eq A [sysD A k, sysD A k] (fun _ => False) (fun z => z = .bl true) := ⟨rfl, k, rfl, rfl, k, rfl, by simp⟩
  have g := sq_lst (A := cd A) (T := TT A) (n := 3) (.cons (.own (C := A.c_System) (S := S_System_eq A) (e := sysD A k) (by simp [TT]) o1 o2 (.inl rfl)) (.cons (.data ((okL_mv mv).up (by decide)) ((okL_mv mv).up (by decide))) (.cons (.data ((okL_str (cps_ok sg)).up (by decide)) ((okL_str (cps_ok sg)).up (by decide))) (.cons (.data ((okL_int n).up (by decide)) ((okL_int n).up (by decide))) .nil))))
  rw [eqD_refl (okL_mv mv), sg_str sg, eqD_refl (okL_int n)] at g
  exact g
noncomputable def jm (k m : Int) : Nat := Classical.epsilon fun j => j ≤ 197 ∧ Lim k m j
theorem jm_ok {k m : Int} (hk : K3 k) (hm : m ≤ 10 ^ 40) : jm k m ≤ 197 ∧ Lim k m (jm k m) := by
  obtain ⟨j, h⟩ := lim_ex 197 (show m < un k 197 by have := un_big hk; omega)
  exact Classical.epsilon_spec (p := fun j => j ≤ 197 ∧ Lim k m j) ⟨j, h⟩
theorem okL_sgn {mv : List (List Int)} {x : PySem.Str} (sg : OkSg mv x) (k m : Int) (j : Nat) : okL 0 (sgn k mv x m j) := okL_str fun c hc => by
  have hc : c = x.cps.toList[(walk mv 0 (dg k m j)).toNat]?.getD 0 := by simpa using hc
  rw [hc]
  by_cases h : (walk mv 0 (dg k m j)).toNat < x.cps.toList.length
  · exact cps_ok sg _ (getD_in h)
  · rw [List.getElem?_eq_none (by omega)]
    decide
theorem dIx_last {P : List Int} {m : Int} {q : D → Prop} (h : q (.int m)) : dIx (.lst ((P ++ [m]).map .int)) (.int (-1)) q := by
  show (match atD ((P ++ [m]).map D.int) (-1) with | some d => q d | none => False)
  rw [List.map_append, show [m].map D.int = [D.int m] from rfl, atD_last]
  exact h
theorem eqD_pair (m1 m2 : List (List Int)) (x1 x2 : PySem.Str) : eqD (.tup [mvD m1, .str x1]) (.tup [mvD m2, .str x2]) = (eqD (mvD m1) (mvD m2) && eqD (.str x1) (.str x2)) := by
  obtain ⟨p1, a1, _⟩ := okL_mv m1
  obtain ⟨p2, a2, _⟩ := okL_mv m2
  unfold eqD
  simp only [pd, pdA, a1, a2]
  simp [PyData.eqv, PyData.eqvAll]
theorem last_of {α : Type} {l : List α} (h : 0 < l.length) : ∃ r a, l = r ++ [a] := ⟨l.dropLast, l.getLast (List.ne_nil_of_length_pos h), (List.dropLast_concat_getLast _).symm⟩
abbrev wBent : WE := w2 dAdd (wSl (w2 dIx (wVar 2) (wC (.int 1))) wNoP (wPart (w1 dNeg (wC (.int 1))))) (wIf (wB (w2 dNe (w2 dIx (w2 dIx (wVar 2) (wC (.int 1))) (w1 dNeg (wC (.int 1)))) (wC (.str "q")))) (wC (.str "q")) (wC (.str "r")))
theorem cutS_last {l : List Nat} {c : Nat} : cutS ⟨(l ++ [c]).toArray⟩ none (some (-1)) = ⟨l.toArray⟩ := by
  unfold cutS
  rw [HT.sIx_none]
  show (⟨(((l ++ [c]).drop 0).take (HT.sIx (l ++ [c]).toArray.size (l ++ [c]).toArray.size (some (-1)) - 0)).toArray⟩ : PySem.Str) = _
  have e : HT.sIx (l ++ [c]).toArray.size (l ++ [c]).toArray.size (some (-1)) = l.length := by
    unfold HT.sIx
    simp
    omega
  rw [e]
  simp
theorem bent {mv : List (List Int)} {x : PySem.Str} (ok : 1 ≤ mv.length ∧ mv.length ≤ 8) (sg : OkSg mv x) {env : EV} {er : ER} (he : env[2]? = some (.d (.tup [mvD mv, .str x]))) : ∃ y, OkSg mv y ∧ eqD (.str x) (.str y) = false ∧ ∀ q : D → Prop, q (.str y) → wBent env er q := by
  obtain ⟨l, c, e⟩ := last_of (l := x.cps.toList) (by rw [str_len, sg.1]; omega)
  obtain rfl : x = ⟨(l ++ [c]).toArray⟩ := by
    cases x
    rw [← e]
  have hl : (⟨(l ++ [c]).toArray⟩ : PySem.Str).length = l.length + 1 := by
    show (l ++ [c]).toArray.size = _
    simp
  have hc : c < 1114112 := cps_ok sg c (by simp)
  have hx : (⟨(l ++ [c]).toArray⟩ : PySem.Str).length ≤ sizeLine := by rw [sg.1, show sizeLine = 16777216 from rfl]; omega
  have hml : mv.length = l.length + 1 := by rw [← hl]; exact sg.1.symm
  have q1 : (PySem.Str.ofString "q") = ⟨#[113]⟩ := by decide
  have q2 : (PySem.Str.ofString "r") = ⟨#[114]⟩ := by decide
  have o1 : okD (.str ⟨#[c]⟩) := okD_of (okL_str (x := ⟨#[c]⟩) fun z hz => by simp at hz; omega) (by decide)
  have o2 : okD (.str (PySem.Str.ofString "q")) := okD_of (okL_str (x := PySem.Str.ofString "q") fun z hz => by rw [q1] at hz; simp at hz; omega) (by decide)
  have key : ∀ d : Nat, (d = 113 ∨ d = 114) → d ≠ c → OkSg mv ⟨(l ++ [d]).toArray⟩ ∧ eqD (.str ⟨(l ++ [c]).toArray⟩) (.str ⟨(l ++ [d]).toArray⟩) = false := fun d hd hne => by
    refine ⟨⟨?_, fun z hz => ?_⟩, ?_⟩
    · show (l ++ [d]).toArray.size = _
      simp
      omega
    · simp at hz
      rcases hz with hz | rfl
      · exact sg.2 z (by simp [hz])
      · omega
    · show PyData.eqv (.str _) (.str _) = false
      simp [PyData.eqv]
      exact fun z => hne z.symm
  have run : ∀ (d : Nat) (q : D → Prop), (∀ b : Bool, b = !(eqD (.str ⟨#[c]⟩) (.str (PySem.Str.ofString "q"))) → (b = true → d = 113) ∧ (b = false → d = 114)) → q (.str ⟨(l ++ [d]).toArray⟩) → wBent env er q := fun d q hb hq => by
    have a0 : ∀ s : PySem.Str, ((⟨l.toArray⟩ : PySem.Str) ++ s).length = l.length + s.length := fun s => by
      show (l.toArray ++ s.cps).size = _
      simp
      rfl
    simp only [wBent, w2, w1, wSl, wVar, wC, wNoP, wPart, he, dIx, atD_1, dNeg, dSl]
    refine ⟨hx, ?_⟩
    rw [cutS_last]
    simp only [wIf, wB, w2, w1, wVar, wC, he, dIx, atD_1, dNeg, dNe]
    refine ⟨hx, ?_⟩
    rw [atD_last]
    have addc : ∀ z : Nat, (⟨l.toArray⟩ : PySem.Str) ++ (⟨#[z]⟩ : PySem.Str) = ⟨(l ++ [z]).toArray⟩ := fun z => by
      show (⟨l.toArray ++ #[z]⟩ : PySem.Str) = _
      simp
    have lenc : ∀ z : Nat, (⟨l.toArray⟩ : PySem.Str).length + (⟨#[z]⟩ : PySem.Str).length ≤ sizeLine := fun z => by
      show l.toArray.size + 1 ≤ sizeLine
      rw [show sizeLine = 16777216 from rfl]
      simp
      omega
    refine ⟨o1, o2, fun z => ?_, fun z => ?_⟩
    · have := (hb _ rfl).1 z
      subst this
      rw [q1]
      refine ⟨lenc 113, ?_⟩
      rw [addc]
      exact hq
    · have := (hb _ rfl).2 z
      subst this
      rw [q2]
      refine ⟨lenc 114, ?_⟩
      rw [addc]
      exact hq
  have eqc : eqD (.str ⟨#[c]⟩) (.str (PySem.Str.ofString "q")) = decide (c = 113) := by
    rw [q1]
    show PyData.eqv (.str _) (.str _) = _
    unfold PyData.eqv
    rw [Bool.eq_iff_iff]
    simp
  by_cases hcq : c = 113
  · obtain ⟨k1, k2⟩ := key 114 (.inr rfl) (by omega)
    refine ⟨_, k1, k2, fun q hq => run 114 q (fun b hb => ?_) hq⟩
    rw [eqc, decide_eq_true hcq] at hb
    subst hb
    simp
  · obtain ⟨k1, k2⟩ := key 113 (.inl rfl) (fun z => hcq z.symm)
    refine ⟨_, k1, k2, fun q hq => run 113 q (fun b hb => ?_) hq⟩
    rw [eqc, decide_eq_false hcq] at hb
    subst hb
    simp
theorem right_1 (A : Ad) {b : PySem.Addr} {k : Int} {c2 c3 c4 c5 c6 c7 c8 c9 : SV} {n : DN} (hk : K3 k) (hn : ∀ c2 c3 c4 c5 c6 c7 c8 c9, n.nx [.d (.bag b), .d (.int k), c2, c3, c4, c5, c6, c7, c8, c9]) :
    lb_law_right_1 A n [.d (.bag b), .d (.int k), c2, c3, c4, c5, c6, c7, c8, c9] := by
  refine ⟨rfl, hk, fun mv x ok sg => ?_⟩
  -- the two rows
  refine ⟨rfl, hk, rfl, row_init A hk ok sg ⟨rfl, hk, rfl, rfl, row_init A hk ok sg ⟨(show (2 : Nat) ≤ sizeLine by decide), ?_⟩⟩⟩
  -- what they were made of
  refine ⟨rfl, rfl, rfl, rfl, rfl, k, mv, x, rfl, Int.natCast_nonneg _, by have := ok.hi; omega, (show (4 : Nat) ≤ sizeLine by decide), rfl, hk, (show (4 : Nat) ≤ sizeLine by decide), cmp_row A sg (by simp) ⟨fun z => (nomatch z), fun _ => ?_⟩⟩
  -- the places
  refine ⟨⟨by decide, by decide, by decide, by decide, by decide⟩, by decide, by decide, ?_⟩
  refine comp_any (c := fun (i : Nat) => D.int (0 + i)) (l := List.range 10) (acc := []) (ev := fun i => [.d (.bag b), .d (.int k), .d (.tup [mvD mv, .str x]), .d (rowD A k mv x), .d (rowD A k mv x), c5, .d (.int (0 + (i : Nat))), c7, c8, c9]) (e := D.int) (R := fun m => 0 ≤ m ∧ m ≤ 10 ^ 40) (fun y _ Q h => ?_) (fun y _ Q h => ?_) ?_ fun zs hz hr => ?_
  · exact h
  · exact ⟨rfl, hk, fun m h0 hm => h m ⟨h0, hm⟩⟩
  · decide
  rw [List.length_range] at hz
  obtain ⟨zl, m, rfl⟩ := last_of (l := zs) (by omega)
  obtain ⟨P, hP⟩ : ∃ P : List Int, P = (List.range 40).map (fun (i : Nat) => (0 : Int) + i) ++ zl := ⟨_, rfl⟩
  have eP : rngD 0 (Int.toNat 40) ++ ([] ++ (zl ++ [m]).map D.int) = (P ++ [m]).map D.int := by
    rw [hP]
    simp [rngD]
  have hl : (P ++ [m]).length = 50 := by
    rw [hP]
    simp at hz
    simp
    omega
  have hR : ∀ h ∈ P ++ [m], 0 ≤ h ∧ h ≤ (10 : Int) ^ 40 := fun h hh => by
    rw [hP] at hh
    rcases List.mem_append.mp hh with hh | hh
    · rcases List.mem_append.mp hh with hh | hh
      · obtain ⟨i, hi, rfl⟩ := List.mem_map.mp hh
        have := List.mem_range.mp hi
        omega
      · exact hr h (by simp [hh])
    · exact hr h (by simp [List.mem_singleton.mp hh])
  refine ⟨by rw [← List.length_append, eP, List.length_map, hl]; decide, ?_⟩
  rw [eP]
  -- the signs there
  refine DL.comp_map (c := D.int) (l := P ++ [m]) (ev := fun h => [.d (.bag b), .d (.int k), .d (.tup [mvD mv, .str x]), .d (rowD A k mv x), .d (rowD A k mv x), .d (.lst ((P ++ [m]).map .int)), c6, .d (.int h), c8, c9]) (f := fun h => sgn k mv x h (jm k h)) (fun _ _ _ h => h) (fun h hh Q hq => ?_) (by rw [hl]; decide) ?_
  · obtain ⟨h0, h1⟩ := hR h hh
    obtain ⟨j1, j2⟩ := jm_ok hk h1
    exact ⟨rfl, rfl, rfl, k, mv, x, rfl, hk, ok, sg, h0, h1, jm k h, j2, by omega, hq⟩
  refine DL.comp_map (c := D.int) (l := P ++ [m]) (ev := fun h => [.d (.bag b), .d (.int k), .d (.tup [mvD mv, .str x]), .d (rowD A k mv x), .d (rowD A k mv x), .d (.lst ((P ++ [m]).map .int)), c6, .d (.int h), c8, c9]) (f := fun h => sgn k mv x h (jm k h)) (fun _ _ _ h => h) (fun h hh Q hq => ?_) (by rw [hl]; decide) ?_
  · obtain ⟨h0, h1⟩ := hR h hh
    obtain ⟨j1, j2⟩ := jm_ok hk h1
    exact ⟨rfl, mv, rfl, hk, ok, sg, h0, h1, jm k h, j2, j1, hq⟩
  have os : okL 1 (.lst ((P ++ [m]).map fun h => sgn k mv x h (jm k h))) := okL_lst fun y hy => by
    obtain ⟨h, _, rfl⟩ := List.mem_map.mp hy
    exact okL_sgn sg k h _
  refine ne_same os (by decide) ⟨fun z => (nomatch z), fun _ => ?_⟩
  -- again
  obtain ⟨h0, h1⟩ := hR m (by simp)
  obtain ⟨j1, j2⟩ := jm_ok hk h1
  refine ⟨rfl, dIx_last ?_⟩
  refine ⟨rfl, rfl, rfl, k, mv, x, rfl, hk, ok, sg, h0, h1, jm k m, j2, by omega, ?_⟩
  refine ⟨rfl, dIx_last ?_⟩
  refine ⟨rfl, rfl, k, mv, x, rfl, hk, ok, sg, h0, h1, jm k m, j2, by omega, ?_⟩
  refine ne_same (okL_sgn sg k m _) (by decide) ⟨fun z => (nomatch z), fun _ => ?_⟩
  refine ⟨rfl, okEq_row A _, rfl, k, mv, x, rfl, rfl, k, mv, x, rfl, cps_ok sg, cps_ok sg, ?_⟩
  rw [eqD_refl (okL_mv mv), sg_str sg, beq_self_eq_true]
  refine ⟨fun z => (nomatch z), fun _ => ?_⟩
  refine ⟨rfl, okEq_row A _, rfl, k, mv, x, rfl, rfl, k, mv, x, rfl, cps_ok sg, cps_ok sg, ?_⟩
  rw [eqD_refl (okL_mv mv), sg_str sg, beq_self_eq_true]
  refine ⟨fun z => (nomatch z), fun _ => ?_⟩
  refine ⟨rfl, .inl (isO_seq A _), rfl, k, mv, x, rfl, isO_seq A _, ?_⟩
  refine ⟨fun z => (nomatch z), fun _ => ?_⟩
  -- another table
  refine ⟨rfl, hk, fun mv2 x2 ok2 sg2 => ?_⟩
  refine ⟨rfl, hk, rfl, rfl, k, rfl, mv2, rfl, hk, ok2, sg2, ?_⟩
  refine ⟨rfl, okEq_row A _, rfl, k, mv, x, rfl, rfl, k, mv2, x2, rfl, cps_ok sg, cps_ok sg2, ?_⟩
  have ot : ∀ (m : List (List Int)) (y : PySem.Str), OkSg m y → okL 3 (.tup [mvD m, .str y]) := fun m y hy => okL_tup fun z hz => by
    simp only [List.mem_cons, List.not_mem_nil, or_false] at hz
    rcases hz with rfl | rfl
    · exact okL_mv m
    · exact (okL_str (cps_ok hy)).up (by decide)
  refine ⟨okD_of (ot mv x sg) (by decide), okD_of (ot mv2 x2 sg2) (by decide), ?_⟩
  rw [eqD_pair, beq_self_eq_true, Bool.true_and]
  refine ⟨okD_bl _, okD_bl _, ?_⟩
  rw [eqD_bl, beq_self_eq_true]
  refine ⟨fun z => (nomatch z), fun _ => ?_⟩
  -- another row of signs
  have bb := fun (env : EV) (er : ER) (he : env[2]? = some (.d (.tup [mvD mv, .str x]))) => bent (mv := mv) (x := x) ⟨ok.lo, ok.hi⟩ sg (env := env) (er := er) he
  obtain ⟨y, sy, ey, run⟩ := bb [.d (.bag b), .d (.int k), .d (.tup [mvD mv, .str x]), .d (rowD A k mv x), .d (rowD A k mv x), .d (.lst ((P ++ [m]).map .int)), c6, c7, .d (.tup [mvD mv2, .str x2]), c9] n.er rfl
  refine run _ ?_
  refine ⟨rfl, hk, rfl, rfl, k, rfl, mv, rfl, hk, ok, sy, ?_⟩
  refine ⟨rfl, okEq_row A _, rfl, k, mv, x, rfl, rfl, k, mv, y, rfl, cps_ok sg, cps_ok sy, ?_⟩
  rw [ey, Bool.and_false, Bool.and_false]
  refine ⟨fun z => (nomatch z), fun _ => ?_⟩
  refine ⟨rfl, hk, rfl, rfl, k, rfl, mv, rfl, hk, ok, sy, ?_⟩
  refine ⟨rfl, okEq_row A _, rfl, k, mv, x, rfl, rfl, k, mv, y, rfl, cps_ok sg, cps_ok sy, ?_⟩
  rw [ey, Bool.and_false, Bool.and_false]
  refine ⟨fun z => (nomatch z), fun _ => ?_⟩
  exact hn _ _ _ _ _ _ _ _
theorem loop_right (A : Ad) {b : PySem.Addr} {n : DN} (hn : ∀ c1 c2 c3 c4 c5 c6 c7 c8 c9, n.nx [.d (.bag b), c1, c2, c3, c4, c5, c6, c7, c8, c9]) : ∀ (l : List Int) (c1 c2 c3 c4 c5 c6 c7 c8 c9 : SV), (∀ k ∈ l, K3 k) →
    sLoop (lb_law_right_1 A) (gVar 1) n (l.map .int) [.d (.bag b), c1, c2, c3, c4, c5, c6, c7, c8, c9]
  | [], c1, c2, c3, c4, c5, c6, c7, c8, c9, _ => hn c1 c2 c3 c4 c5 c6 c7 c8 c9
  | k :: l, c1, c2, c3, c4, c5, c6, c7, c8, c9, h => right_1 A (n := { n with nx := sLoop (lb_law_right_1 A) (gVar 1) n (l.map .int), ct := sLoop (lb_law_right_1 A) (gVar 1) n (l.map .int), bk := n.nx }) (h k (by simp)) fun c2 c3 c4 c5 c6 c7 c8 c9 => loop_right A hn l _ c2 c3 c4 c5 c6 c7 c8 c9 fun k hk => h k (by simp [hk])
theorem hw_law_right (A : Ad) : ∀ ds er q, ds.length = 1 → S_law_right A ds er q → w_law_right A { nx := fun _ => q .non, rt := q, er := er } (envOf 10 ds) := by
  intro ds er q hlen h
  unfold S_law_right at h
  split at h
  · rename_i b
    refine ⟨⟨by decide, by decide, by decide, by decide⟩, ?_⟩
    refine loop_right A (fun c1 c2 c3 c4 c5 c6 c7 c8 c9 => ?_) [1, 2, 3] .un .un .un .un .un .un .un .un .un (fun k hk => ?_)
    · have k1 : K3 1 := ⟨by decide, by decide⟩
      have k2 : K3 2 := ⟨by decide, by decide⟩
      have a0 : (PySem.Str.ofString "a") = ⟨#[97]⟩ := by decide
      have sg : ∀ l : List Int, OkSg [l] (PySem.Str.ofString "a") := fun l => ⟨by rw [a0]; rfl, fun c hc => by rw [a0] at hc; simp at hc; omega⟩
      have o1 : OkMv 1 [[0, 0]] := ⟨by decide, by decide, by decide, by decide, ⟨_, _, rfl⟩⟩
      have o2 : OkMv 2 [[0, 0, 0]] := ⟨by decide, by decide, by decide, by decide, ⟨_, _, rfl⟩⟩
      refine ⟨rfl, k1, (show (2 : Nat) ≤ sizeLine by decide), (show (1 : Nat) ≤ sizeLine by decide), rfl, rfl, 1, rfl, [[0, 0]], rfl, k1, o1, sg _, ?_⟩
      refine ⟨rfl, k2, (show (3 : Nat) ≤ sizeLine by decide), (show (1 : Nat) ≤ sizeLine by decide), rfl, rfl, 2, rfl, [[0, 0, 0]], rfl, k2, o2, sg _, ?_⟩
      exact ⟨rfl, okEq_row A _, rfl, 1, _, _, rfl, rfl, 2, _, _, rfl, cps_ok (sg [0]), cps_ok (sg [0]), h⟩
    · simp at hk
      unfold K3
      omega
  · exact h.elim
theorem hw_law (A : Ad) : ∀ ds er q, ds.length = 1 → S_law A ds er q → w_law A { nx := fun _ => q .non, rt := q, er := er } (envOf 2 ds) := by
  intro ds er q hlen h
  obtain ⟨ns, rfl, hl, hq⟩ := h
  simp [w_law, wVar, wC, w2, w1, wNil, wCons, wTup, wLstO, wFz, wLk, wOwn, wAnd, wOr, wNot, wB, wYes, wIf, wFldC, wCB, wCBL, wCall0, wMeth0, wMethN0, wMakeK0, wMake0, sSeq, sNext, sNever, sRet, sRetN, sRetO, sIf, sAsg, sAsgO, sPar, sParO, sPar3, sParO3, sAsgG, gTupD, setAll, sAug, sApp, sFldI, tyAnd, tyOr, tyNot, iRg1, iRg2, iLst, iTupW, sFor, dAdd, dSub, dMul, dMulT, dDiv, dMod, dPow, dNeg, dLt, dLe, dGt, dGe, dIsN, DL.isNon, dNotN, dEq, dNe, dIx, dLen, dInt, dAbs, dMax2, dMin2, lLen, lTup, isA, envOf, envI, putD, gVar, wRev, wRevT, wIxL, wSl, wSlO, wNoP, wPart, wBag, okD_int, okD_bl, okD_non, eqD_int, eqD_bl, wipeE, wChain, wCallI0, wCallIK0, iSt, dLenO, wLRg1, wJoin, sDrop, wLc]
  generalize hN : (if 2 < if 5 < (ns.length : Int) then 5 else (ns.length : Int) then if 5 < (ns.length : Int) then 5 else (ns.length : Int) else 2) = N
  have hN2 : 0 ≤ N ∧ N ≤ 6 := by
    rw [← hN]
    split <;> split <;> omega
  refine ⟨by omega, by omega, ?_⟩
  unfold rngD
  refine DL.comp_map (c := fun (i : Nat) => D.int (0 + i)) (l := List.range N.toNat) (ev := fun i => [.d (.scr ns), .d (.int (0 + (i : Nat)))]) (f := fun _ => .bl true) (fun _ _ _ h => h) (fun i _ Q h => ?_) ?_ ?_
  · exact ⟨rfl, by omega, fun a => ⟨rfl, h⟩⟩
  · rw [List.length_range, show sizeLine = 16777216 from rfl]
    omega
  · refine all_map (fun _ => true) _ _ ?_
    rw [all_yes]
    exact hq
end Lw
namespace Lw
open PySem L2 DL
open PySem.Spec PyProof.Rows
structure Fa where
  a_System_eq : PySem.Addr
  d_System_eq : PySem.FuncData
  a_Row_eq : PySem.Addr
  d_Row_eq : PySem.FuncData
  a_law_draw : PySem.Addr
  d_law_draw : PySem.FuncData
  a_law_one : PySem.Addr
  d_law_one : PySem.FuncData
  a_law_table : PySem.Addr
  d_law_table : PySem.FuncData
  a_check_system : PySem.Addr
  d_check_system : PySem.FuncData
  a_is_integer : PySem.Addr
  d_is_integer : PySem.FuncData
  a_is_number : PySem.Addr
  d_is_number : PySem.FuncData
  a_are_moves : PySem.Addr
  d_are_moves : PySem.FuncData
  a_are_small : PySem.Addr
  d_are_small : PySem.FuncData
  a_Row_init : PySem.Addr
  d_Row_init : PySem.FuncData
  a_System_init : PySem.Addr
  d_System_init : PySem.FuncData
  a_Row_len : PySem.Addr
  d_Row_len : PySem.FuncData
  a_law_units : PySem.Addr
  d_law_units : PySem.FuncData
  a_law_great : PySem.Addr
  d_law_great : PySem.FuncData
  a_units_up_to : PySem.Addr
  d_units_up_to : PySem.FuncData
  a_digits_of : PySem.Addr
  d_digits_of : PySem.FuncData
  a_sign_at : PySem.Addr
  d_sign_at : PySem.FuncData
  a_Row_call : PySem.Addr
  d_Row_call : PySem.FuncData
  a_law_digits : PySem.Addr
  d_law_digits : PySem.FuncData
  a_law_sign : PySem.Addr
  d_law_sign : PySem.FuncData
  a_law_right : PySem.Addr
  d_law_right : PySem.FuncData
  a_law_bag : PySem.Addr
  d_law_bag : PySem.FuncData
  a_law : PySem.Addr
  d_law : PySem.FuncData
structure Txt (K : PySem.W.Frag) (mg : PySem.Str → Option PySem.Value) (A : Ad) (F : Fa) : Prop where
  F_System_eq : Fun K "__eq__" "System.__eq__" s_System_eq F.a_System_eq F.d_System_eq
  b_System_eq : Binds K F.d_System_eq ["self", "other"] []
  me_System_eq : Meth K A.c_System "__eq__" F.a_System_eq
  F_Row_eq : Fun K "__eq__" "Row.__eq__" s_Row_eq F.a_Row_eq F.d_Row_eq
  b_Row_eq : Binds K F.d_Row_eq ["self", "other"] []
  me_Row_eq : Meth K A.c_Row "__eq__" F.a_Row_eq
  F_law_draw : Fun K "_law_draw" "_law_draw" s_law_draw F.a_law_draw F.d_law_draw
  b_law_draw : Binds K F.d_law_draw ["_law_bag_here", "_law_wide"] []
  g_law_draw : mg "_law_draw" = some (.ref F.a_law_draw)
  F_law_one : Fun K "_law_one" "_law_one" s_law_one F.a_law_one F.d_law_one
  b_law_one : Binds K F.d_law_one ["_law_bag_here", "_law_some"] []
  g_law_one : mg "_law_one" = some (.ref F.a_law_one)
  F_law_table : Fun K "_law_table" "_law_table" s_law_table F.a_law_table F.d_law_table
  b_law_table : Binds K F.d_law_table ["_law_bag_here", "_law_level"] []
  g_law_table : mg "_law_table" = some (.ref F.a_law_table)
  F_check_system : Fun K "check_system" "check_system" s_check_system F.a_check_system F.d_check_system
  b_check_system : Binds K F.d_check_system ["system"] []
  g_check_system : mg "check_system" = some (.ref F.a_check_system)
  F_is_integer : Fun K "is_integer" "is_integer" s_is_integer F.a_is_integer F.d_is_integer
  b_is_integer : Binds K F.d_is_integer ["value"] []
  g_is_integer : mg "is_integer" = some (.ref F.a_is_integer)
  F_is_number : FunD K "is_number" "is_number" (defArgs s_is_number) (defBody s_is_number) (defScope s_is_number) [.non] [] F.a_is_number F.d_is_number
  b_is_number : Binds K F.d_is_number ["value", "most"] []
  g_is_number : mg "is_number" = some (.ref F.a_is_number)
  F_are_moves : Fun K "are_moves" "are_moves" s_are_moves F.a_are_moves F.d_are_moves
  b_are_moves : Binds K F.d_are_moves ["step", "value"] []
  g_are_moves : mg "are_moves" = some (.ref F.a_are_moves)
  F_are_small : Fun K "are_small" "are_small" s_are_small F.a_are_small F.d_are_small
  b_are_small : Binds K F.d_are_small ["value", "least", "most"] []
  g_are_small : mg "are_small" = some (.ref F.a_are_small)
  F_Row_init : Fun K "__init__" "Row.__init__" s_Row_init F.a_Row_init F.d_Row_init
  b_Row_init : Binds K F.d_Row_init ["self", "system", "moves", "signs"] []
  mk_Row : Mk K A.c_Row F.a_Row_init
  F_System_init : Fun K "__init__" "System.__init__" s_System_init F.a_System_init F.d_System_init
  b_System_init : Binds K F.d_System_init ["self", "step"] []
  mk_System : Mk K A.c_System F.a_System_init
  F_Row_len : Fun K "__len__" "Row.__len__" s_Row_len F.a_Row_len F.d_Row_len
  b_Row_len : Binds K F.d_Row_len ["self"] []
  me_Row_len : Meth K A.c_Row "__len__" F.a_Row_len
  F_law_units : Fun K "_law_units" "_law_units" s_law_units F.a_law_units F.d_law_units
  b_law_units : Binds K F.d_law_units ["_law_level", "_law_many"] []
  g_law_units : mg "_law_units" = some (.ref F.a_law_units)
  F_law_great : Fun K "_law_great" "_law_great" s_law_great F.a_law_great F.d_law_great
  b_law_great : Binds K F.d_law_great ["_law_bag_here", "_law_level"] []
  g_law_great : mg "_law_great" = some (.ref F.a_law_great)
  F_units_up_to : Fun K "units_up_to" "units_up_to" s_units_up_to F.a_units_up_to F.d_units_up_to
  b_units_up_to : Binds K F.d_units_up_to ["step", "number"] []
  g_units_up_to : mg "units_up_to" = some (.ref F.a_units_up_to)
  F_digits_of : Fun K "digits_of" "digits_of" s_digits_of F.a_digits_of F.d_digits_of
  b_digits_of : Binds K F.d_digits_of ["step", "number"] []
  g_digits_of : mg "digits_of" = some (.ref F.a_digits_of)
  F_sign_at : Fun K "sign_at" "sign_at" s_sign_at F.a_sign_at F.d_sign_at
  b_sign_at : Binds K F.d_sign_at ["row", "number"] []
  g_sign_at : mg "sign_at" = some (.ref F.a_sign_at)
  F_Row_call : Fun K "__call__" "Row.__call__" s_Row_call F.a_Row_call F.d_Row_call
  b_Row_call : Binds K F.d_Row_call ["self", "number"] []
  co_Row : StX.CallO K A.c_Row F.a_Row_call
  me_Row_call : Meth K A.c_Row "__call__" F.a_Row_call
  F_law_digits : Fun K "_law_digits" "_law_digits" s_law_digits F.a_law_digits F.d_law_digits
  b_law_digits : Binds K F.d_law_digits ["_law_level", "_law_amount"] []
  g_law_digits : mg "_law_digits" = some (.ref F.a_law_digits)
  F_law_sign : Fun K "_law_sign" "_law_sign" s_law_sign F.a_law_sign F.d_law_sign
  b_law_sign : Binds K F.d_law_sign ["_law_level", "_law_table_here", "_law_amount"] []
  g_law_sign : mg "_law_sign" = some (.ref F.a_law_sign)
  F_law_right : Fun K "_law_right" "_law_right" s_law_right F.a_law_right F.d_law_right
  b_law_right : Binds K F.d_law_right ["_law_bag_here"] []
  g_law_right : mg "_law_right" = some (.ref F.a_law_right)
  F_law_bag : Fun K "_law_bag" "_law_bag" s_law_bag F.a_law_bag F.d_law_bag
  b_law_bag : Binds K F.d_law_bag ["_law_cells", "_law_k"] []
  g_law_bag : mg "_law_bag" = some (.ref F.a_law_bag)
  F_law : Fun K "law" "law" s_law F.a_law F.d_law
  b_law : Binds K F.d_law ["_law_cells"] []
  g_law : mg "law" = some (.ref F.a_law)
  kb_Row_init_1_signs_moves_system : KBn K F.d_Row_init ["self", "system", "moves", "signs"] 1 ["signs", "moves", "system"] (pmA [2, 1, 0]) (pmA [2, 1, 0])
  kb_Row_call_1_number : KBn K F.d_Row_call ["self", "number"] 1 ["number"] (pmA [0]) (pmA [0])
  cl_System : Cls K A.c_System
  m_System : mg "System" = some (.ref A.c_System)
  cl_Row : Cls K A.c_Row
  m_Row : mg "Row" = some (.ref A.c_Row)
  ne_Row : PySem.W.findIn K (.ref A.c_Row) "__ne__" = some (some (.builtin "object.__ne__"))
  na_Row_moves : NoAttr K A.c_Row "moves"
  na_Row_signs : NoAttr K A.c_Row "signs"
  na_Row_system : NoAttr K A.c_Row "system"
  na_System_step : NoAttr K A.c_System "step"
  z_abs : mg "abs" = none
  z_all : mg "all" = none
  z_bool : mg "bool" = none
  z_int : mg "int" = none
  z_isinstance : mg "isinstance" = none
  z_len : mg "len" = none
  z_list : mg "list" = none
  z_max : mg "max" = none
  z_min : mg "min" = none
  z_range : mg "range" = none
  z_str : mg "str" = none
  z_tuple : mg "tuple" = none
  v_MOST_NUMBER : ∃ u, mg "MOST_NUMBER" = some u ∧ RelV (.int 10000000000000000000000000000000000000000) u
  v_MOST_STANDS : ∃ u, mg "MOST_STANDS" = some u ∧ RelV (.int 8) u
  v_MOST_STEP : ∃ u, mg "MOST_STEP" = some u ∧ RelV (.int 3) u
  ty : TyOk K (cd A)
section
variable {P : Program} {w : World} {K : PySem.W.Frag} {mg : Str → Option Value} {base : Heap} {A : Ad} {F : Fa}
theorem ok_System_eq (T : Txt K mg A F) : FnOk P w K mg base (L2.CX P w) 1 F.a_System_eq F.d_System_eq ["self", "other"] (spOf K 2 (S_System_eq A)) := by
  exact ok_def T.F_System_eq sc_System_eq (by decide) (fun cdv Ar outer s H E hr => ⟨_, w_System_eq A,
    (pss_one (ps_ret (pe_and (pe_callB call_isi (by rfl) T.z_isinstance bt_isinstance (pa_cons (pv 1) (pa_cons (pe_glob (v := .ref A.c_System) (by rfl) T.m_System rfl) pa_nil))) (pe_one (pe_cmpR (op_eqD (hu64 hr)) (pe_fld (pv 0) rfl) (pe_fld (pv 1) rfl) (nomark _)))))),
    (sims_ret (sim_andV (sim_cb (sim_isA T.ty) (sim_cons (sim_var (i := 1)) (sim_cons sim_obj sim_nil))) (sim_op sim_eq (sim_fldC T.cl_System T.na_System_step (sim_var (i := 0))) (sim_fldC T.cl_System T.na_System_step (sim_var (i := 1)))))), hw_System_eq A⟩)
theorem ok_Row_eq (T : Txt K mg A F) : FnOk P w K mg base (L2.CX P w) 2 F.a_Row_eq F.d_Row_eq ["self", "other"] (spOf K 2 (S_Row_eq A)) := by
  exact ok_def T.F_Row_eq sc_Row_eq (by decide) (fun cdv Ar outer s H E hr => ⟨_, w_Row_eq A,
    (pss_cons (ps_if (pt_not (pt_val (pe_callB call_isi (by rfl) T.z_isinstance bt_isinstance (pa_cons (pv 1) (pa_cons (pe_glob (v := .ref A.c_Row) (by rfl) T.m_Row rfl) pa_nil))))) (pss_one (ps_ret pe_bl)) pss_nil)
    (pss_one (ps_ret (pe_and (pe_cmpR (op_ownEq (E := E0) T.me_System_eq.at_ T.me_System_eq.fn (ok_System_eq T) T.b_System_eq (hr.mono (by decide)) passN) (pe_fld (pv 0) rfl) (pe_fld (pv 1) rfl) (nomark _)) (pe_and (pe_cmpR (op_eqD (hu64 hr)) (pe_fld (pv 0) rfl) (pe_fld (pv 1) rfl) (nomark _)) (pe_one (pe_cmpR (op_eqD (hu64 hr)) (pe_fld (pv 0) rfl) (pe_fld (pv 1) rfl) (nomark _)))))))),
    (sims_seq (sims_if (simt_not (simt_B (sim_cb (sim_isA T.ty) (sim_cons (sim_var (i := 1)) (sim_cons sim_obj sim_nil))))) (sims_ret sim_bl) sims_next)
    (sims_ret (sim_andV (sim_op (sim_eqO T.ty) (sim_fldC T.cl_Row T.na_Row_system (sim_var (i := 0))) (sim_fldC T.cl_Row T.na_Row_system (sim_var (i := 1)))) (sim_andV (sim_op sim_eq (sim_fldC T.cl_Row T.na_Row_moves (sim_var (i := 0))) (sim_fldC T.cl_Row T.na_Row_moves (sim_var (i := 1)))) (sim_op sim_eq (sim_fldC T.cl_Row T.na_Row_signs (sim_var (i := 0))) (sim_fldC T.cl_Row T.na_Row_signs (sim_var (i := 1)))))))), hw_Row_eq A⟩)
theorem ok_law_draw (T : Txt K mg A F) : FnOk P w K mg base (L2.CX P w) 1 F.a_law_draw F.d_law_draw ["_law_bag_here", "_law_wide"] (spOf K 2 sDraw) :=
  T.F_law_draw.okX sc_law_draw (fun vs H Q E h => spOf_len h) (fun cdv Ar outer s H vs Q E hr h => ⟨tDraw K, (pss_open (i := 0) (pss_cons (ps_asg (pe_op op_addD (pe_ix ix_seq (pv 0) pe_int (fun _ _ => rfl)) pe_int) (pg_sub (pv 0) pe_int set_list)) (pss_cons (ps_if (pt_cmpR op_gtD (pe_ix ix_seq (pv 0) pe_int (fun _ _ => rfl)) pe_int (nomark _)) (pss_cons (ps_set (i := 2) sc_law_draw.nd rfl (Or.inl rfl) (pe_op op_modD (pe_callTy call_int1 (by rfl) T.z_int bt_int (pa_cons (pe_ix ix_seq (pv 0) pe_int (fun _ _ => rfl)) pa_nil)) (pv 1))) (pss_cons (ps_asg (pe_op op_divD (pe_ix ix_seq (pv 0) pe_int (fun _ _ => rfl)) (pv 1)) (pg_sub (pv 0) pe_int set_list)) (pss_one (ps_ret (pe_shut (i := 0) (pv 2)))))) pss_nil) (pss_cons (ps_set (i := 3) sc_law_draw.nd rfl (Or.inl rfl) (pe_op op_addD (pe_callTy call_int1 (by rfl) T.z_int bt_int (pa_cons (pe_ix ix_seq (pv 0) pe_int (fun _ _ => rfl)) pa_nil)) (pe_op op_mulD pe_int (pe_ix ix_seq (pv 0) pe_int (fun _ _ => rfl))))) (pss_cons (ps_asg (pe_op op_modD (pe_callTy call_int1 (by rfl) T.z_int bt_int (pa_cons (pe_op op_addD (pe_op op_addD (pe_op op_mulD (pv 3) (pe_op op_addD (pe_op op_modD (pe_callTy call_int1 (by rfl) T.z_int bt_int (pa_cons (pv 3) pa_nil)) pe_int) pe_int)) (pe_op op_mulD pe_int (pe_ix ix_seq (pv 0) pe_int (fun _ _ => rfl)))) pe_int) pa_nil)) pe_int) (pg_sub (pv 0) pe_int set_list)) (pss_one (ps_ret (pe_shut (i := 0) (pe_op op_modD (pe_op op_divD (pe_callTy call_int1 (by rfl) T.z_int bt_int (pa_cons (pe_ix ix_seq (pv 0) pe_int (fun _ _ => rfl)) pa_nil)) pe_int) (pv 1)))))))))), draw_ok h rfl⟩)
theorem ok_law_one (T : Txt K mg A F) : FnOk P w K mg base (L2.CX P w) 2 F.a_law_one F.d_law_one ["_law_bag_here", "_law_some"] (spOf K 2 (S_law_one A)) := by
  exact ok_def T.F_law_one sc_law_one (by decide) (fun cdv Ar outer s H E hr => ⟨_, w_law_one A,
    (pss_one (ps_ret (pe_ix ix_seq (pv 1) (pe_call (E := E0) (ok_law_draw T) (hr.mono (by decide)) (by rfl) T.g_law_draw T.F_law_draw.kp T.b_law_draw .nil passN (pa_cons (pv 0) (pa_cons (pe_callB call_len (by rfl) T.z_len bt_len (pa_cons (pv 1) pa_nil)) pa_nil))) (fun _ _ => rfl)))),
    (sims_ret (sim_op sim_ix (sim_var (i := 1)) (sim_call0 rd0 (sim_cons (sim_var (i := 0)) (sim_cons (sim_cb sim_len (sim_cons (sim_var (i := 1)) sim_nil)) sim_nil))))), hw_law_one A⟩)
theorem ok_law_table (T : Txt K mg A F) : FnOk P w K mg base (L2.CX P w) 3 F.a_law_table F.d_law_table ["_law_bag_here", "_law_level"] (spOf K 2 (S_law_table A)) := by
  exact ok_def T.F_law_table sc_law_table (by decide) (fun cdv Ar outer s H E hr => ⟨_, w_law_table A,
    (pss_cons (ps_set (i := 2) sc_law_table.nd rfl (by first | exact Or.inl rfl | exact Or.inr rfl) (pe_op op_addD pe_int (pe_call (E := E0) (ok_law_draw T) (hr.mono (by decide)) (by rfl) T.g_law_draw T.F_law_draw.kp T.b_law_draw .nil passN (pa_cons (pv 0) (pa_cons pe_int pa_nil)))))
    (pss_cons (ps_set (i := 3) sc_law_table.nd rfl (by first | exact Or.inl rfl | exact Or.inr rfl) (pe_lst pa_nil))
    (pss_cons (ps_for PassesOwn.leaving rfl (pi_range1 (by rfl) T.z_range (pa_cons (pv 2) pa_nil)) (pg_name (i := 4) sc_law_table.nd rfl (by first | exact Or.inl rfl | exact Or.inr rfl)) (pss_one (ps_expr (pe_bm PySem.F.plainAttrs_list PySem.F.slot_list_append PySem.F.type_list_append mt_append (pv 3) (pa_cons (pe_callTy call_tuple_of (by rfl) T.z_tuple bt_tuple (pa_cons (pe_lc rfl sc_law_table.nd (pi_range1 (by rfl) T.z_range (pa_cons (pe_op op_addD (pv 1) pe_int) pa_nil)) (own := [("_law_digit", 5)]) (blkOk_by (by kernel_rfl)) (fun _ _ _ _ _ => (pg_name (i := 5) sc_law_table.nd rfl (by first | exact Or.inl rfl | exact Or.inr rfl))) (fun _ _ _ _ _ => pts_nil) (fun _ _ _ _ _ => (pe_call (E := E0) (ok_law_draw T) (hr.mono (by decide)) (by rfl) T.g_law_draw T.F_law_draw.kp T.b_law_draw .nil passN (pa_cons (pv 0) (pa_cons (pv 2) pa_nil))))) pa_nil)) pa_nil)))))
    (pss_cons (ps_set (i := 6) sc_law_table.nd rfl (by first | exact Or.inl rfl | exact Or.inr rfl) (pe_op op_addD (pe_tup (pa_cons pe_int pa_nil)) (pe_slice sl_D (pe_ix ix_seq (pv 3) pe_int (fun _ _ => rfl)) (po_some pe_int) po_none)))
    (pss_one (ps_ret (pe_tup (pa_cons (pe_op op_addD (pe_tup (pa_cons (pv 6) pa_nil)) (pe_callTy call_tuple_of (by rfl) T.z_tuple bt_tuple (pa_cons (pe_slice sl_D (pv 3) (po_some pe_int) po_none) pa_nil))) (pa_cons (pe_bm PySem.F.plainAttrs_str PySem.F.slot_str_join PySem.F.type_str_join mt_join pe_str (pa_cons (pe_lc rfl sc_law_table.nd (pi_range1 (by rfl) T.z_range (pa_cons (pv 2) pa_nil)) (own := [("_law_stand", 4)]) (blkOk_by (by kernel_rfl)) (fun _ _ _ _ _ => (pg_name (i := 4) sc_law_table.nd rfl (by first | exact Or.inl rfl | exact Or.inr rfl))) (fun _ _ _ _ _ => pts_nil) (fun _ _ _ _ _ => (pe_call (E := E0) (ok_law_one T) (hr.mono (by decide)) (by rfl) T.g_law_one T.F_law_one.kp T.b_law_one .nil passN (pa_cons (pv 0) (pa_cons pe_str pa_nil))))) pa_nil)) pa_nil))))))))),
    (sims_seq (sims_asg (i := 2) (sim_op sim_add sim_int (sim_call0 rd0 (sim_cons (sim_var (i := 0)) (sim_cons sim_int sim_nil)))))
    (sims_seq (sims_asgO (i := 3) (sim_lstO sim_nil))
    (sims_seq (sims_for (simi_rng1 (sim_cons (sim_var (i := 2)) sim_nil)) (simg_name (i := 4)) (sims_app (i := 3) (sim_cbl sim_tupL (siml_O (simo_lc (simi_rng1 (sim_cons (sim_op sim_add (sim_var (i := 1)) sim_int) sim_nil)) (simg_name (i := 5)) simt_yes (sim_call0 rd0 (sim_cons (sim_var (i := 0)) (sim_cons (sim_var (i := 2)) sim_nil))) (by decide))))))
    (sims_seq (sims_asg (i := 6) (sim_op sim_add (sim_tup (sim_cons sim_int sim_nil)) (sim_sl (sim_ixL (i := 3) sim_int) (simp_part sim_int) simp_no)))
    (sims_ret (sim_tup (sim_cons (sim_op sim_add (sim_tup (sim_cons (sim_var (i := 6)) sim_nil)) (sim_cbl sim_tupL (siml_O (simo_slOwn (i := 3) (simp_part sim_int) simp_no)))) (sim_cons (sim_join sim_str (siml_O (simo_lc (simi_rng1 (sim_cons (sim_var (i := 2)) sim_nil)) (simg_name (i := 4)) simt_yes (sim_call0 rd0 (sim_cons (sim_var (i := 0)) (sim_cons sim_str sim_nil))) (by decide)))) sim_nil)))))))), hw_law_table A⟩)
theorem ok_check_system (T : Txt K mg A F) : FnOk P w K mg base (L2.CX P w) 1 F.a_check_system F.d_check_system ["system"] (spOf K 1 (S_check_system A)) := by
  exact ok_def T.F_check_system sc_check_system (by decide) (fun cdv Ar outer s H E hr => ⟨_, w_check_system A,
    (pss_one (ps_if (pt_not (pt_val (pe_callB call_isi (by rfl) T.z_isinstance bt_isinstance (pa_cons (pv 0) (pa_cons (pe_glob (v := .ref A.c_System) (by rfl) T.m_System rfl) pa_nil))))) (pss_one ps_never) pss_nil)),
    (sims_if (simt_not (simt_B (sim_cb (sim_isA T.ty) (sim_cons (sim_var (i := 0)) (sim_cons sim_obj sim_nil))))) sims_never sims_next), hw_check_system A⟩)
theorem ok_is_integer (T : Txt K mg A F) : FnOk P w K mg base (L2.CX P w) 1 F.a_is_integer F.d_is_integer ["value"] (spOf K 1 (S_is_integer A)) := by
  exact ok_def T.F_is_integer sc_is_integer (by decide) (fun cdv Ar outer s H E hr => ⟨_, w_is_integer A,
    (pss_one (ps_ret (pe_and (pe_callB call_isi (by rfl) T.z_isinstance bt_isinstance (pa_cons (pv 0) (pa_cons (pe_bltn (v := .ty "int") (by rfl) T.z_int bt_int rfl) pa_nil))) (pe_one (pe_not (pe_callB call_isi (by rfl) T.z_isinstance bt_isinstance (pa_cons (pv 0) (pa_cons (pe_bltn (v := .ty "bool") (by rfl) T.z_bool bt_bool rfl) pa_nil)))))))),
    (sims_ret (sim_andV (sim_cb (sim_isA T.ty) (sim_cons (sim_var (i := 0)) (sim_cons sim_ty sim_nil))) (sim_notV (sim_cb (sim_isA T.ty) (sim_cons (sim_var (i := 0)) (sim_cons sim_ty sim_nil)))))), hw_is_integer A⟩)
theorem ok_is_number (T : Txt K mg A F) : FnOk P w K mg base (L2.CX P w) 2 F.a_is_number F.d_is_number ["value", "most"] (spOf K 2 (S_is_number A)) := by
  exact ok_defD T.F_is_number sc_is_number (by decide) (fun cdv Ar outer s H E hr => ⟨_, w_is_number A,
    (pss_one (ps_ret (pe_and (pe_call (E := E0) (ok_is_integer T) (hr.mono (by decide)) (by rfl) T.g_is_integer T.F_is_integer.kp T.b_is_integer .nil passN (pa_cons (pv 0) pa_nil)) (pe_and (pe_cmpR op_geD (pv 0) pe_int (nomark _)) (pe_one (pe_or (pe_cmpR op_isND (pv 1) pe_non (nomark _)) (pe_one (pe_cmpR op_leD (pv 0) (pv 1) (nomark _))))))))),
    (sims_ret (sim_andV (sim_call0 rd0 (sim_cons (sim_var (i := 0)) sim_nil)) (sim_andV (sim_op sim_ge (sim_var (i := 0)) sim_int) (sim_orV (sim_op sim_isN (sim_var (i := 1)) sim_non) (sim_op sim_le (sim_var (i := 0)) (sim_var (i := 1))))))), hw_is_number A⟩)
theorem ok_are_moves (T : Txt K mg A F) : FnOk P w K mg base (L2.CX P w) 3 F.a_are_moves F.d_are_moves ["step", "value"] (spOf K 2 (S_are_moves A)) := by
  obtain ⟨u_MOST_STANDS, m_MOST_STANDS, r_MOST_STANDS⟩ := T.v_MOST_STANDS
  exact ok_def T.F_are_moves sc_are_moves (by decide) (fun cdv Ar outer s H E hr => ⟨_, w_are_moves A,
    (pss_cons (ps_if (PW.pt (pw_or (pt_not (pt_val (pe_callB call_isi (by rfl) T.z_isinstance bt_isinstance (pa_cons (pv 1) (pa_cons (pe_bltn (v := .ty "tuple") (by rfl) T.z_tuple bt_tuple rfl) pa_nil))))) (pw_or1 (pt_not (pt_chain op_leD op_leD pe_int (pe_callB call_len (by rfl) T.z_len bt_len (pa_cons (pv 1) pa_nil)) (pe_glob (by rfl) m_MOST_STANDS r_MOST_STANDS)))))) (pss_one (ps_ret pe_bl)) pss_nil)
    (pss_cons (ps_for PassesOwn.leaving rfl (pi_tup (pv 1)) (pg_name (i := 2) sc_are_moves.nd rfl (by first | exact Or.inl rfl | exact Or.inr rfl)) (pss_cons (ps_if (PW.pt (pw_or (pt_not (pt_val (pe_callB call_isi (by rfl) T.z_isinstance bt_isinstance (pa_cons (pv 2) (pa_cons (pe_bltn (v := .ty "tuple") (by rfl) T.z_tuple bt_tuple rfl) pa_nil))))) (pw_or1 (pt_cmpR (op_neD (hu64 hr)) (pe_callB call_len (by rfl) T.z_len bt_len (pa_cons (pv 2) pa_nil)) (pe_op op_addD (pv 0) pe_int) (nomark _))))) (pss_one (ps_ret pe_bl)) pss_nil)
    (pss_one (ps_if (pt_not (pt_val (pe_callB (cr_all rfl) (by rfl) T.z_all bt_all (pa_cons (pe_lc rfl sc_are_moves.nd (pi_tup (pv 2)) (own := [("stand", 3)]) (blkOk_by (by kernel_rfl)) (fun _ _ _ _ _ => (pg_name (i := 3) sc_are_moves.nd rfl (by first | exact Or.inl rfl | exact Or.inr rfl))) (fun _ _ _ _ _ => pts_nil) (fun _ _ _ _ _ => (pe_call (E := E0) (ok_is_number T) (hr.mono (by decide)) (by rfl) T.g_is_number T.F_is_number.kp T.b_is_number .nil passN (pa_cons (pv 3) (pa_cons (pe_op op_subD (pe_callB call_len (by rfl) T.z_len bt_len (pa_cons (pv 1) pa_nil)) pe_int) pa_nil))))) pa_nil)))) (pss_one (ps_ret pe_bl)) pss_nil))))
    (pss_one (ps_ret (pe_cmpR (op_eqD (hu64 hr)) (pe_ix ix_seq (pe_ix ix_seq (pv 1) pe_int (fun _ _ => rfl)) pe_int (fun _ _ => rfl)) pe_int (nomark _)))))),
    (sims_seq (sims_if (simt_or (simt_not (simt_B (sim_cb (sim_isA T.ty) (sim_cons (sim_var (i := 1)) (sim_cons sim_ty sim_nil))))) (simt_not (simt_test (sim_chain sim_le sim_le sim_int (sim_cb sim_len (sim_cons (sim_var (i := 1)) sim_nil)) sim_int)))) (sims_ret sim_bl) sims_next)
    (sims_seq (sims_for (simi_tup (sim_var (i := 1))) (simg_name (i := 2)) (sims_seq (sims_if (simt_or (simt_not (simt_B (sim_cb (sim_isA T.ty) (sim_cons (sim_var (i := 2)) (sim_cons sim_ty sim_nil))))) (simt_test (sim_op sim_ne (sim_cb sim_len (sim_cons (sim_var (i := 2)) sim_nil)) (sim_op sim_add (sim_var (i := 0)) sim_int)))) (sims_ret sim_bl) sims_next)
    (sims_if (simt_not (simt_B (sim_cbl sim_allL (siml_O (simo_lc (simi_tup (sim_var (i := 2))) (simg_name (i := 3)) simt_yes (sim_call0 rd0 (sim_cons (sim_var (i := 3)) (sim_cons (sim_op sim_sub (sim_cb sim_len (sim_cons (sim_var (i := 1)) sim_nil)) sim_int) sim_nil))) (by decide)))))) (sims_ret sim_bl) sims_next)))
    (sims_ret (sim_op sim_eq (sim_op sim_ix (sim_op sim_ix (sim_var (i := 1)) sim_int) sim_int) sim_int)))), hw_are_moves A⟩)
theorem ok_are_small (T : Txt K mg A F) : FnOk P w K mg base (L2.CX P w) 1 F.a_are_small F.d_are_small ["value", "least", "most"] (spOf K 3 (S_are_small A)) := by
  exact ok_def T.F_are_small sc_are_small (by decide) (fun cdv Ar outer s H E hr => ⟨_, w_are_small A,
    (pss_cons (ps_if (PW.pt (pw_or (pt_not (pt_val (pe_callB call_isi (by rfl) T.z_isinstance bt_isinstance (pa_cons (pv 0) (pa_cons (pe_bltn (v := .ty "str") (by rfl) T.z_str bt_str rfl) pa_nil))))) (pw_or1 (pt_not (pt_chain op_leD op_leD (pv 1) (pe_callB call_len (by rfl) T.z_len bt_len (pa_cons (pv 0) pa_nil)) (pv 2)))))) (pss_one (ps_ret pe_bl)) pss_nil)
    (pss_one (ps_ret (pe_callB (cr_all rfl) (by rfl) T.z_all bt_all (pa_cons (pe_lc rfl sc_are_small.nd (pi_str (pv 0)) (own := [("sign", 3)]) (blkOk_by (by kernel_rfl)) (fun _ _ _ _ _ => (pg_name (i := 3) sc_are_small.nd rfl (by first | exact Or.inl rfl | exact Or.inr rfl))) (fun _ _ _ _ _ => pts_nil) (fun _ _ _ _ _ => (pe_chain op_leD op_leD pe_str (pv 3) pe_str))) pa_nil))))),
    (sims_seq (sims_if (simt_or (simt_not (simt_B (sim_cb (sim_isA T.ty) (sim_cons (sim_var (i := 0)) (sim_cons sim_ty sim_nil))))) (simt_not (simt_test (sim_chain sim_le sim_le (sim_var (i := 1)) (sim_cb sim_len (sim_cons (sim_var (i := 0)) sim_nil)) (sim_var (i := 2)))))) (sims_ret sim_bl) sims_next)
    (sims_ret (sim_cbl sim_allL (siml_O (simo_lc (simi_str (sim_var (i := 0))) (simg_name (i := 3)) simt_yes (sim_chain sim_le sim_le sim_str (sim_var (i := 3)) sim_str) (by decide)))))), hw_are_small A⟩)
theorem ok_Row_init (T : Txt K mg A F) : FnOk P w K mg base (L2.CX P w) 4 F.a_Row_init F.d_Row_init ["self", "system", "moves", "signs"] (spInit K A.c_Row 3 (S_Row_init A)) := by
  exact ok_init T.F_Row_init sc_Row_init (by decide) (fun cdv Ar outer s H E hr => ⟨_, w_Row_init A,
    (pss_cons (ps_expr (pe_call (E := E0) (ok_check_system T) (hr.mono (by decide)) (by rfl) T.g_check_system T.F_check_system.kp T.b_check_system .nil passN (pa_cons (pv 1) pa_nil)))
    (pss_cons (ps_if (pt_not (pt_val (pe_call (E := E0) (ok_are_moves T) (hr.mono (by decide)) (by rfl) T.g_are_moves T.F_are_moves.kp T.b_are_moves .nil passN (pa_cons (pe_fld (pv 1) rfl) (pa_cons (pv 2) pa_nil))))) (pss_one ps_never) pss_nil)
    (pss_cons (ps_if (pt_not (pt_val (pe_call (E := E0) (ok_are_small T) (hr.mono (by decide)) (by rfl) T.g_are_small T.F_are_small.kp T.b_are_small .nil passN (pa_cons (pv 3) (pa_cons (pe_callB call_len (by rfl) T.z_len bt_len (pa_cons (pv 2) pa_nil)) (pa_cons (pe_callB call_len (by rfl) T.z_len bt_len (pa_cons (pv 2) pa_nil)) pa_nil)))))) (pss_one ps_never) pss_nil)
    (pss_cons (ps_fld (pv 0) (pv 1) rfl)
    (pss_cons (ps_fld (pv 0) (pv 2) rfl)
    (pss_one (ps_fld (pv 0) (pv 3) rfl))))))),
    (sims_seq (sims_drop (sim_call0 rd0 (sim_cons (sim_var (i := 1)) sim_nil)))
    (sims_seq (sims_if (simt_not (simt_B (sim_call0 rd0 (sim_cons (sim_fldC T.cl_System T.na_System_step (sim_var (i := 1))) (sim_cons (sim_var (i := 2)) sim_nil))))) sims_never sims_next)
    (sims_seq (sims_if (simt_not (simt_B (sim_call0 rd0 (sim_cons (sim_var (i := 3)) (sim_cons (sim_cb sim_len (sim_cons (sim_var (i := 2)) sim_nil)) (sim_cons (sim_cb sim_len (sim_cons (sim_var (i := 2)) sim_nil)) sim_nil)))))) sims_never sims_next)
    (sims_seq (sims_fld (i := 0) T.cl_Row T.na_Row_system (sim_var (i := 1)))
    (sims_seq (sims_fld (i := 0) T.cl_Row T.na_Row_moves (sim_var (i := 2)))
    (sims_fld (i := 0) T.cl_Row T.na_Row_signs (sim_var (i := 3)))))))), hw_Row_init A⟩)
theorem ok_System_init (T : Txt K mg A F) : FnOk P w K mg base (L2.CX P w) 3 F.a_System_init F.d_System_init ["self", "step"] (spInit K A.c_System 1 (S_System_init A)) := by
  obtain ⟨u_MOST_STEP, m_MOST_STEP, r_MOST_STEP⟩ := T.v_MOST_STEP
  exact ok_init T.F_System_init sc_System_init (by decide) (fun cdv Ar outer s H E hr => ⟨_, w_System_init A,
    (pss_cons (ps_if (PW.pt (pw_or (pt_not (pt_val (pe_call (E := E0) (ok_is_number T) (hr.mono (by decide)) (by rfl) T.g_is_number T.F_is_number.kp T.b_is_number .nil passN (pa_cons (pv 1) (pa_cons (pe_glob (by rfl) m_MOST_STEP r_MOST_STEP) pa_nil))))) (pw_or1 (pt_cmpR (op_eqD (hu64 hr)) (pv 1) pe_int (nomark _))))) (pss_one ps_never) pss_nil)
    (pss_one (ps_fld (pv 0) (pv 1) rfl))),
    (sims_seq (sims_if (simt_or (simt_not (simt_B (sim_call0 rd0 (sim_cons (sim_var (i := 1)) (sim_cons sim_int sim_nil))))) (simt_test (sim_op sim_eq (sim_var (i := 1)) sim_int))) sims_never sims_next)
    (sims_fld (i := 0) T.cl_System T.na_System_step (sim_var (i := 1)))), hw_System_init A⟩)
theorem ok_Row_len (T : Txt K mg A F) : FnOk P w K mg base (L2.CX P w) 1 F.a_Row_len F.d_Row_len ["self"] (spOf K 1 (S_Row_len A)) := by
  exact ok_def T.F_Row_len sc_Row_len (by decide) (fun cdv Ar outer s H E hr => ⟨_, w_Row_len A,
    (pss_one (ps_ret (pe_callB call_len (by rfl) T.z_len bt_len (pa_cons (pe_fld (pv 0) rfl) pa_nil)))),
    (sims_ret (sim_cb sim_len (sim_cons (sim_fldC T.cl_Row T.na_Row_moves (sim_var (i := 0))) sim_nil))), hw_Row_len A⟩)
theorem ok_law_units (T : Txt K mg A F) : FnOk P w K mg base (L2.CX P w) 1 F.a_law_units F.d_law_units ["_law_level", "_law_many"] (spOf K 2 (S_law_units A)) := by
  exact ok_def T.F_law_units sc_law_units (by decide) (fun cdv Ar outer s H E hr => ⟨_, w_law_units A,
    (pss_cons (ps_set (i := 2) sc_law_units.nd rfl (by first | exact Or.inl rfl | exact Or.inr rfl) (pe_lst (pa_cons pe_int (pa_cons (pe_op op_addD (pv 0) pe_int) pa_nil))))
    (pss_cons (ps_for PassesOwn.leaving rfl (pi_range1 (by rfl) T.z_range (pa_cons (pv 1) pa_nil)) (pg_name (i := 3) sc_law_units.nd rfl (by first | exact Or.inl rfl | exact Or.inr rfl)) (pss_one (ps_expr (pe_bm PySem.F.plainAttrs_list PySem.F.slot_list_append PySem.F.type_list_append mt_append (pv 2) (pa_cons (pe_op op_addD (pe_op op_mulT (pv 0) (pe_ix ix_seq (pv 2) (pe_un un_negD pe_int) (fun _ _ => rfl))) (pe_ix ix_seq (pv 2) (pe_un un_negD pe_int) (fun _ _ => rfl))) pa_nil)))))
    (pss_one (ps_ret (pe_slice sl_D (pv 2) po_none (po_some (pv 1))))))),
    (sims_seq (sims_asgO (i := 2) (sim_lstO (sim_cons sim_int (sim_cons (sim_op sim_add (sim_var (i := 0)) sim_int) sim_nil))))
    (sims_seq (sims_for (simi_rng1 (sim_cons (sim_var (i := 1)) sim_nil)) (simg_name (i := 3)) (sims_app (i := 2) (sim_op sim_add (sim_op sim_mulT (sim_var (i := 0)) (sim_ixL (i := 2) (sim_un sim_neg sim_int))) (sim_ixL (i := 2) (sim_un sim_neg sim_int)))))
    (sims_ret (sim_fz (simo_slOwn (i := 2) simp_no (simp_part (sim_var (i := 1)))))))), hw_law_units A⟩)
theorem ok_law_great (T : Txt K mg A F) : FnOk P w K mg base (L2.CX P w) 2 F.a_law_great F.d_law_great ["_law_bag_here", "_law_level"] (spOf K 2 (S_law_great A)) := by
  exact ok_def T.F_law_great sc_law_great (by decide) (fun cdv Ar outer s H E hr => ⟨_, w_law_great A,
    (pss_cons (ps_par (i := 2) (j := 3) rfl sc_law_great.nd rfl rfl (by decide) rfl rfl (pa_cons (pe_call (E := E0) (ok_law_draw T) (hr.mono (by decide)) (by rfl) T.g_law_draw T.F_law_draw.kp T.b_law_draw .nil passN (pa_cons (pv 0) (pa_cons pe_int pa_nil))) (pa_cons pe_int pa_nil)) rfl)
    (pss_cons (ps_if (pt_cmpR op_ltD (pv 2) pe_int (nomark _)) (pss_one (ps_ret (pe_call (E := E0) (ok_law_draw T) (hr.mono (by decide)) (by rfl) T.g_law_draw T.F_law_draw.kp T.b_law_draw .nil passN (pa_cons (pv 0) (pa_cons pe_int pa_nil))))) pss_nil)
    (pss_cons (ps_if (pt_cmpR (op_eqD (hu64 hr)) (pv 2) pe_int (nomark _)) (pss_one (ps_ret (pe_op op_subD (pe_op op_addD (pe_ix ix_seq (pe_call (E := E0) (ok_law_units T) (hr.mono (by decide)) (by rfl) T.g_law_units T.F_law_units.kp T.b_law_units .nil passN (pa_cons (pv 1) (pa_cons (pe_op op_addD pe_int (pe_call (E := E0) (ok_law_draw T) (hr.mono (by decide)) (by rfl) T.g_law_draw T.F_law_draw.kp T.b_law_draw .nil passN (pa_cons (pv 0) (pa_cons pe_int pa_nil)))) pa_nil))) (pe_un un_negD pe_int) (fun _ _ => rfl)) (pe_call (E := E0) (ok_law_draw T) (hr.mono (by decide)) (by rfl) T.g_law_draw T.F_law_draw.kp T.b_law_draw .nil passN (pa_cons (pv 0) (pa_cons pe_int pa_nil)))) pe_int))) pss_nil)
    (pss_cons (ps_for PassesOwn.leaving rfl (pi_range1 (by rfl) T.z_range (pa_cons (pe_op op_addD pe_int (pe_call (E := E0) (ok_law_draw T) (hr.mono (by decide)) (by rfl) T.g_law_draw T.F_law_draw.kp T.b_law_draw .nil passN (pa_cons (pv 0) (pa_cons pe_int pa_nil)))) pa_nil)) (pg_name (i := 4) sc_law_great.nd rfl (by first | exact Or.inl rfl | exact Or.inr rfl)) (pss_one (ps_set (i := 3) sc_law_great.nd rfl (by first | exact Or.inl rfl | exact Or.inr rfl) (pe_op op_addD (pe_op op_mulT (pv 3) pe_int) (pe_call (E := E0) (ok_law_draw T) (hr.mono (by decide)) (by rfl) T.g_law_draw T.F_law_draw.kp T.b_law_draw .nil passN (pa_cons (pv 0) (pa_cons pe_int pa_nil)))))))
    (pss_one (ps_ret (pv 3))))))),
    (sims_seq (sims_par (i := 2) (j := 3) (sim_call0 rd0 (sim_cons (sim_var (i := 0)) (sim_cons sim_int sim_nil))) sim_int)
    (sims_seq (sims_if (simt_test (sim_op sim_lt (sim_var (i := 2)) sim_int)) (sims_ret (sim_call0 rd0 (sim_cons (sim_var (i := 0)) (sim_cons sim_int sim_nil)))) sims_next)
    (sims_seq (sims_if (simt_test (sim_op sim_eq (sim_var (i := 2)) sim_int)) (sims_ret (sim_op sim_sub (sim_op sim_add (sim_op sim_ix (sim_call0 rd0 (sim_cons (sim_var (i := 1)) (sim_cons (sim_op sim_add sim_int (sim_call0 rd0 (sim_cons (sim_var (i := 0)) (sim_cons sim_int sim_nil)))) sim_nil))) (sim_un sim_neg sim_int)) (sim_call0 rd0 (sim_cons (sim_var (i := 0)) (sim_cons sim_int sim_nil)))) sim_int)) sims_next)
    (sims_seq (sims_for (simi_rng1 (sim_cons (sim_op sim_add sim_int (sim_call0 rd0 (sim_cons (sim_var (i := 0)) (sim_cons sim_int sim_nil)))) sim_nil)) (simg_name (i := 4)) (sims_asg (i := 3) (sim_op sim_add (sim_op sim_mulT (sim_var (i := 3)) sim_int) (sim_call0 rd0 (sim_cons (sim_var (i := 0)) (sim_cons sim_int sim_nil))))))
    (sims_ret (sim_var (i := 3))))))), hw_law_great A⟩)
theorem ok_units_up_to (T : Txt K mg A F) : FnOk P w K mg base (L2.CX P w) 1 F.a_units_up_to F.d_units_up_to ["step", "number"] (spOf K 2 (S_units_up_to A)) := by
  exact ok_def T.F_units_up_to sc_units_up_to (by decide) (fun cdv Ar outer s H E hr => ⟨_, w_units_up_to A,
    (pss_cons (ps_par3 (i := 2) (j := 3) (l := 4) rfl sc_units_up_to.nd rfl rfl rfl (by decide) (by decide) (by decide) rfl rfl rfl (pa_cons (pe_lst pa_nil) (pa_cons pe_int (pa_cons pe_int pa_nil))) rfl)
    (pss_cons (ps_while PassesOwn.leaving (pt_cmpR op_leD (pv 4) (pv 1) (nomark _)) (pss_cons (ps_expr (pe_bm PySem.F.plainAttrs_list PySem.F.slot_list_append PySem.F.type_list_append mt_append (pv 2) (pa_cons (pv 4) pa_nil)))
    (pss_one (ps_par (i := 3) (j := 4) rfl sc_units_up_to.nd rfl rfl (by decide) rfl rfl (pa_cons (pv 4) (pa_cons (pe_op op_addD (pe_op op_mulT (pv 0) (pv 4)) (pv 3)) pa_nil)) rfl))))
    (pss_one (ps_ret (pv 2))))),
    (sims_seq (sims_parO3 (i := 2) (j := 3) (l := 4) (sim_lstO sim_nil) sim_int sim_int)
    (sims_seq (sims_while (simt_test (sim_op sim_le (sim_var (i := 4)) (sim_var (i := 1)))) (sims_seq (sims_app (i := 2) (sim_var (i := 4)))
    (sims_par (i := 3) (j := 4) (sim_var (i := 4)) (sim_op sim_add (sim_op sim_mulT (sim_var (i := 0)) (sim_var (i := 4))) (sim_var (i := 3))))))
    (sims_retO (i := 2)))), hw_units_up_to A⟩)
theorem ok_digits_of (T : Txt K mg A F) : FnOk P w K mg base (L2.CX P w) 2 F.a_digits_of F.d_digits_of ["step", "number"] (spOf K 2 (S_digits_of A)) := by
  exact ok_def T.F_digits_of sc_digits_of (by decide) (fun cdv Ar outer s H E hr => ⟨_, w_digits_of A,
    (pss_cons (ps_par (i := 2) (j := 3) rfl sc_digits_of.nd rfl rfl (by decide) rfl rfl (pa_cons (pe_lst pa_nil) (pa_cons (pv 1) pa_nil)) rfl)
    (pss_cons (ps_for PassesOwn.leaving rfl (pi_list (pe_revL (pe_call (E := E0) (ok_units_up_to T) (hr.mono (by decide)) (by rfl) T.g_units_up_to T.F_units_up_to.kp T.b_units_up_to .nil passN (pa_cons (pv 0) (pa_cons (pv 1) pa_nil))))) (pg_name (i := 4) sc_digits_of.nd rfl (by first | exact Or.inl rfl | exact Or.inr rfl)) (pss_cons (ps_expr (pe_bm PySem.F.plainAttrs_list PySem.F.slot_list_append PySem.F.type_list_append mt_append (pv 2) (pa_cons (pe_op op_divD (pv 3) (pv 4)) pa_nil)))
    (pss_one (ps_set (i := 3) sc_digits_of.nd rfl (by first | exact Or.inl rfl | exact Or.inr rfl) (pe_op op_modD (pv 3) (pv 4))))))
    (pss_one (ps_ret (pe_callTy call_tuple_of (by rfl) T.z_tuple bt_tuple (pa_cons (pv 2) pa_nil)))))),
    (sims_seq (sims_parO (i := 2) (j := 3) (sim_lstO sim_nil) (sim_var (i := 1)))
    (sims_seq (sims_for (simi_list (sim_revL (sim_call0 rd0 (sim_cons (sim_var (i := 0)) (sim_cons (sim_var (i := 1)) sim_nil))))) (simg_name (i := 4)) (sims_seq (sims_app (i := 2) (sim_op sim_div (sim_var (i := 3)) (sim_var (i := 4))))
    (sims_asg (i := 3) (sim_op sim_mod (sim_var (i := 3)) (sim_var (i := 4))))))
    (sims_ret (sim_cbl sim_tupL (siml_own (i := 2)))))), hw_digits_of A⟩)
theorem ok_sign_at (T : Txt K mg A F) : FnOk P w K mg base (L2.CX P w) 3 F.a_sign_at F.d_sign_at ["row", "number"] (spOf K 2 (S_sign_at A)) := by
  exact ok_def T.F_sign_at sc_sign_at (by decide) (fun cdv Ar outer s H E hr => ⟨_, w_sign_at A,
    (pss_cons (ps_set (i := 2) sc_sign_at.nd rfl (by first | exact Or.inl rfl | exact Or.inr rfl) pe_int)
    (pss_cons (ps_for PassesOwn.leaving rfl (pi_tup (pe_call (E := E0) (ok_digits_of T) (hr.mono (by decide)) (by rfl) T.g_digits_of T.F_digits_of.kp T.b_digits_of .nil passN (pa_cons (pe_fld (pe_fld (pv 0) rfl) rfl) (pa_cons (pv 1) pa_nil)))) (pg_name (i := 3) sc_sign_at.nd rfl (by first | exact Or.inl rfl | exact Or.inr rfl)) (pss_one (ps_set (i := 2) sc_sign_at.nd rfl (by first | exact Or.inl rfl | exact Or.inr rfl) (pe_ix ix_seq (pe_ix ix_seq (pe_fld (pv 0) rfl) (pv 2) (fun _ _ => rfl)) (pv 3) (fun _ _ => rfl)))))
    (pss_one (ps_ret (pe_ix ix_seq (pe_fld (pv 0) rfl) (pv 2) (fun _ _ => rfl)))))),
    (sims_seq (sims_asg (i := 2) sim_int)
    (sims_seq (sims_for (simi_tup (sim_call0 rd0 (sim_cons (sim_fldC T.cl_System T.na_System_step (sim_fldC T.cl_Row T.na_Row_system (sim_var (i := 0)))) (sim_cons (sim_var (i := 1)) sim_nil)))) (simg_name (i := 3)) (sims_asg (i := 2) (sim_op sim_ix (sim_op sim_ix (sim_fldC T.cl_Row T.na_Row_moves (sim_var (i := 0))) (sim_var (i := 2))) (sim_var (i := 3)))))
    (sims_ret (sim_op sim_ix (sim_fldC T.cl_Row T.na_Row_signs (sim_var (i := 0))) (sim_var (i := 2)))))), hw_sign_at A⟩)
theorem ok_Row_call (T : Txt K mg A F) : FnOk P w K mg base (L2.CX P w) 4 F.a_Row_call F.d_Row_call ["self", "number"] (spOf K 2 (S_Row_call A)) := by
  obtain ⟨u_MOST_NUMBER, m_MOST_NUMBER, r_MOST_NUMBER⟩ := T.v_MOST_NUMBER
  exact ok_def T.F_Row_call sc_Row_call (by decide) (fun cdv Ar outer s H E hr => ⟨_, w_Row_call A,
    (pss_cons (ps_if (pt_not (pt_val (pe_call (E := E0) (ok_is_number T) (hr.mono (by decide)) (by rfl) T.g_is_number T.F_is_number.kp T.b_is_number .nil passN (pa_cons (pv 1) (pa_cons (pe_glob (by rfl) m_MOST_NUMBER r_MOST_NUMBER) pa_nil))))) (pss_one ps_never) pss_nil)
    (pss_one (ps_ret (pe_call (E := E0) (ok_sign_at T) (hr.mono (by decide)) (by rfl) T.g_sign_at T.F_sign_at.kp T.b_sign_at .nil passN (pa_cons (pv 0) (pa_cons (pv 1) pa_nil)))))),
    (sims_seq (sims_if (simt_not (simt_B (sim_call0 rd0 (sim_cons (sim_var (i := 1)) (sim_cons sim_int sim_nil))))) sims_never sims_next)
    (sims_ret (sim_call0 rd0 (sim_cons (sim_var (i := 0)) (sim_cons (sim_var (i := 1)) sim_nil))))), hw_Row_call A⟩)
theorem ok_law_digits (T : Txt K mg A F) : FnOk P w K mg base (L2.CX P w) 2 F.a_law_digits F.d_law_digits ["_law_level", "_law_amount"] (spOf K 2 (S_law_digits A)) := by
  exact ok_def T.F_law_digits sc_law_digits (by decide) (fun cdv Ar outer s H E hr => ⟨_, w_law_digits A,
    (pss_cons (ps_asg (pe_tup (pa_cons (pe_lst pa_nil) (pa_cons (pv 1) pa_nil))) (pg_tup rfl (pgs_cons (pg_name (i := 2) sc_law_digits.nd rfl (by first | exact Or.inl rfl | exact Or.inr rfl)) (pgs_cons (pg_name (i := 3) sc_law_digits.nd rfl (by first | exact Or.inl rfl | exact Or.inr rfl)) pgs_nil))))
    (pss_cons (ps_for PassesOwn.leaving rfl (pi_list (pe_revL (pe_lc rfl sc_law_digits.nd (pi_list (pe_call (E := E0) (ok_law_units T) (hr.mono (by decide)) (by rfl) T.g_law_units T.F_law_units.kp T.b_law_units .nil passN (pa_cons (pv 0) (pa_cons pe_int pa_nil)))) (own := [("_law_unit", 4)]) (blkOk_by (by kernel_rfl)) (fun _ _ _ _ _ => (pg_name (i := 4) sc_law_digits.nd rfl (by first | exact Or.inl rfl | exact Or.inr rfl))) (fun _ _ _ _ _ => (pts_one (pt_cmpR op_leD (pv 4) (pv 1) (nomark _)))) (fun _ _ _ _ _ => (pv 4))))) (pg_name (i := 4) sc_law_digits.nd rfl (by first | exact Or.inl rfl | exact Or.inr rfl)) (pss_cons (ps_set (i := 5) sc_law_digits.nd rfl (by first | exact Or.inl rfl | exact Or.inr rfl) (pe_callB call_len (by rfl) T.z_len bt_len (pa_cons (pe_lc rfl sc_law_digits.nd (pi_range2 (by rfl) T.z_range (pa_cons pe_int (pa_cons (pe_op op_addD (pv 0) pe_int) pa_nil))) (own := [("_law_k", 6)]) (blkOk_by (by kernel_rfl)) (fun _ _ _ _ _ => (pg_name (i := 6) sc_law_digits.nd rfl (by first | exact Or.inl rfl | exact Or.inr rfl))) (fun _ _ _ _ _ => (pts_one (pt_cmpR op_leD (pe_op op_mulT (pv 6) (pv 4)) (pv 3) (nomark _)))) (fun _ _ _ _ _ => (pv 6))) pa_nil)))
    (pss_cons (ps_expr (pe_bm PySem.F.plainAttrs_list PySem.F.slot_list_append PySem.F.type_list_append mt_append (pv 2) (pa_cons (pv 5) pa_nil)))
    (pss_one (ps_set (i := 3) sc_law_digits.nd rfl (by first | exact Or.inl rfl | exact Or.inr rfl) (pe_op op_subD (pv 3) (pe_op op_mulT (pv 5) (pv 4))))))))
    (pss_one (ps_ret (pe_callTy call_tuple_of (by rfl) T.z_tuple bt_tuple (pa_cons (pv 2) pa_nil)))))),
    (sims_seq (sims_tupO (i := 2) (j := 3) (sim_lstO sim_nil) (sim_var (i := 1)))
    (sims_seq (sims_for (simi_list (sim_revL (sim_fz (simo_lc (simi_list (sim_call0 rd0 (sim_cons (sim_var (i := 0)) (sim_cons sim_int sim_nil)))) (simg_name (i := 4)) (simt_test (sim_op sim_le (sim_var (i := 4)) (sim_var (i := 1)))) (sim_var (i := 4)) (by decide))))) (simg_name (i := 4)) (sims_seq (sims_asg (i := 5) (sim_cbl sim_lenL (siml_O (simo_lc (simi_rng2 (sim_cons sim_int (sim_cons (sim_op sim_add (sim_var (i := 0)) sim_int) sim_nil))) (simg_name (i := 6)) (simt_test (sim_op sim_le (sim_op sim_mulT (sim_var (i := 6)) (sim_var (i := 4))) (sim_var (i := 3)))) (sim_var (i := 6)) (by decide)))))
    (sims_seq (sims_app (i := 2) (sim_var (i := 5)))
    (sims_asg (i := 3) (sim_op sim_sub (sim_var (i := 3)) (sim_op sim_mulT (sim_var (i := 5)) (sim_var (i := 4))))))))
    (sims_ret (sim_cbl sim_tupL (siml_own (i := 2)))))), hw_law_digits A⟩)
theorem ok_law_sign (T : Txt K mg A F) : FnOk P w K mg base (L2.CX P w) 3 F.a_law_sign F.d_law_sign ["_law_level", "_law_table_here", "_law_amount"] (spOf K 3 (S_law_sign A)) := by
  exact ok_def T.F_law_sign sc_law_sign (by decide) (fun cdv Ar outer s H E hr => ⟨_, w_law_sign A,
    (pss_cons (ps_set (i := 3) sc_law_sign.nd rfl (by first | exact Or.inl rfl | exact Or.inr rfl) pe_int)
    (pss_cons (ps_for PassesOwn.leaving rfl (pi_tup (pe_call (E := E0) (ok_law_digits T) (hr.mono (by decide)) (by rfl) T.g_law_digits T.F_law_digits.kp T.b_law_digits .nil passN (pa_cons (pv 0) (pa_cons (pv 2) pa_nil)))) (pg_name (i := 4) sc_law_sign.nd rfl (by first | exact Or.inl rfl | exact Or.inr rfl)) (pss_one (ps_set (i := 3) sc_law_sign.nd rfl (by first | exact Or.inl rfl | exact Or.inr rfl) (pe_ix ix_seq (pe_ix ix_seq (pe_ix ix_seq (pv 1) pe_int (fun _ _ => rfl)) (pv 3) (fun _ _ => rfl)) (pv 4) (fun _ _ => rfl)))))
    (pss_one (ps_ret (pe_ix ix_seq (pe_ix ix_seq (pv 1) pe_int (fun _ _ => rfl)) (pv 3) (fun _ _ => rfl)))))),
    (sims_seq (sims_asg (i := 3) sim_int)
    (sims_seq (sims_for (simi_tup (sim_call0 rd0 (sim_cons (sim_var (i := 0)) (sim_cons (sim_var (i := 2)) sim_nil)))) (simg_name (i := 4)) (sims_asg (i := 3) (sim_op sim_ix (sim_op sim_ix (sim_op sim_ix (sim_var (i := 1)) sim_int) (sim_var (i := 3))) (sim_var (i := 4)))))
    (sims_ret (sim_op sim_ix (sim_op sim_ix (sim_var (i := 1)) sim_int) (sim_var (i := 3)))))), hw_law_sign A⟩)
theorem eqs_2 {cdv : Value} {N : List Str} {q : Str} {sc : Scope} {f : Addr} {Ar : Around} {outer : List Env} {s : Shared} {H : Hp} {E : XK} (T : Txt K mg A F) : ∀ p ∈ TT A, OwnE (cxOf (L2.CX P w) P w K mg base N q sc f cdv Ar outer s H E) 2 p.1 p.2 := fun p hp => by
  simp only [TT, List.mem_cons, List.not_mem_nil, or_false] at hp
  rcases hp with rfl | rfl
  · exact ⟨_, _, 1, by decide, T.me_System_eq.at_, T.me_System_eq.fn, ok_System_eq T, T.b_System_eq⟩
  · exact ⟨_, _, 2, by decide, T.me_Row_eq.at_, T.me_Row_eq.fn, ok_Row_eq T, T.b_Row_eq⟩
theorem ok_law_right (T : Txt K mg A F) : FnOk P w K mg base (L2.CX P w) 7 F.a_law_right F.d_law_right ["_law_bag_here"] (spOf K 1 (S_law_right A)) := by
  exact ok_def T.F_law_right sc_law_right (by decide) (fun cdv Ar outer s H E hr => ⟨_, w_law_right A,
    (pss_cons (ps_for PassesOwn.leaving rfl (pi_range2 (by rfl) T.z_range (pa_cons pe_int (pa_cons pe_int pa_nil))) (pg_name (i := 1) sc_law_right.nd rfl (by first | exact Or.inl rfl | exact Or.inr rfl)) (pss_cons (ps_set (i := 2) sc_law_right.nd rfl (by first | exact Or.inl rfl | exact Or.inr rfl) (pe_call (E := E0) (ok_law_table T) (hr.mono (by decide)) (by rfl) T.g_law_table T.F_law_table.kp T.b_law_table .nil passN (pa_cons (pv 0) (pa_cons (pv 1) pa_nil))))
    (pss_cons (ps_asg (pe_tup (pa_cons (pe_make (E := E0) T.mk_Row (ok_Row_init T) (hr.mono (by decide)) (by rfl) T.m_Row T.b_Row_init .nil passN (pa_cons (pe_make (E := E0) T.mk_System (ok_System_init T) (hr.mono (by decide)) (by rfl) T.m_System T.b_System_init .nil passN (pa_cons (pv 1) pa_nil)) (pa_cons (pe_ix ix_seq (pv 2) pe_int (fun _ _ => rfl)) (pa_cons (pe_ix ix_seq (pv 2) pe_int (fun _ _ => rfl)) pa_nil)))) (pa_cons (pe_makeK0 (E := E0) T.mk_Row (ok_Row_init T) (hr.mono (by decide)) (by rfl) T.m_Row T.kb_Row_init_1_signs_moves_system passN (pk_cons (pe_ix ix_seq (pv 2) pe_int (fun _ _ => rfl)) (pk_cons (pe_ix ix_seq (pv 2) pe_int (fun _ _ => rfl)) (pk_cons (pe_make (E := E0) T.mk_System (ok_System_init T) (hr.mono (by decide)) (by rfl) T.m_System T.b_System_init .nil passN (pa_cons (pv 1) pa_nil)) pk_nil)))) pa_nil))) (pg_tup rfl (pgs_cons (pg_name (i := 3) sc_law_right.nd rfl (by first | exact Or.inl rfl | exact Or.inr rfl)) (pgs_cons (pg_name (i := 4) sc_law_right.nd rfl (by first | exact Or.inl rfl | exact Or.inr rfl)) pgs_nil))))
    (pss_cons (ps_if (pt_cmpR (op_neG (k := 2) T.ty (eqs_2 T) 3 (hr.mono (by decide))) (pe_lst (pa_cons (pe_fld (pv 3) rfl) (pa_cons (pe_fld (pv 3) rfl) (pa_cons (pe_fld (pv 3) rfl) (pa_cons (pe_callB (call_lenO (E := E0) T.me_Row_len.at_ T.me_Row_len.fn (ok_Row_len T) T.b_Row_len (hr.mono (by decide)) passN) (by rfl) T.z_len bt_len (pa_cons (pv 3) pa_nil)) pa_nil))))) (pe_lst (pa_cons (pe_make (E := E0) T.mk_System (ok_System_init T) (hr.mono (by decide)) (by rfl) T.m_System T.b_System_init .nil passN (pa_cons (pv 1) pa_nil)) (pa_cons (pe_ix ix_seq (pv 2) pe_int (fun _ _ => rfl)) (pa_cons (pe_ix ix_seq (pv 2) pe_int (fun _ _ => rfl)) (pa_cons (pe_callB call_len (by rfl) T.z_len bt_len (pa_cons (pe_ix ix_seq (pv 2) pe_int (fun _ _ => rfl)) pa_nil)) pa_nil))))) (nomark _)) (pss_one (ps_ret pe_bl)) pss_nil)
    (pss_cons (ps_set (i := 5) sc_law_right.nd rfl (by first | exact Or.inl rfl | exact Or.inr rfl) (pe_op op_addD (pe_listRg rfl (by rfl) T.z_list (prg_1 (by rfl) T.z_range pe_int)) (pe_lc rfl sc_law_right.nd (pi_range1 (by rfl) T.z_range (pa_cons pe_int pa_nil)) (own := [("_law_turn", 6)]) (blkOk_by (by kernel_rfl)) (fun _ _ _ _ _ => (pg_name (i := 6) sc_law_right.nd rfl (by first | exact Or.inl rfl | exact Or.inr rfl))) (fun _ _ _ _ _ => pts_nil) (fun _ _ _ _ _ => (pe_call (E := E0) (ok_law_great T) (hr.mono (by decide)) (by rfl) T.g_law_great T.F_law_great.kp T.b_law_great .nil passN (pa_cons (pv 0) (pa_cons (pv 1) pa_nil)))))))
    (pss_cons (ps_if (pt_cmpR (op_neD (hu64 hr)) (pe_lc rfl sc_law_right.nd (pi_list (pv 5)) (own := [("_law_here", 7)]) (blkOk_by (by kernel_rfl)) (fun _ _ _ _ _ => (pg_name (i := 7) sc_law_right.nd rfl (by first | exact Or.inl rfl | exact Or.inr rfl))) (fun _ _ _ _ _ => pts_nil) (fun _ _ _ _ _ => (pe_callI (E := E0) (pv 3) T.co_Row (ok_Row_call T) (hr.mono (by decide)) T.b_Row_call passN (pa_cons (pv 7) pa_nil)))) (pe_lc rfl sc_law_right.nd (pi_list (pv 5)) (own := [("_law_here", 7)]) (blkOk_by (by kernel_rfl)) (fun _ _ _ _ _ => (pg_name (i := 7) sc_law_right.nd rfl (by first | exact Or.inl rfl | exact Or.inr rfl))) (fun _ _ _ _ _ => pts_nil) (fun _ _ _ _ _ => (pe_call (E := E0) (ok_law_sign T) (hr.mono (by decide)) (by rfl) T.g_law_sign T.F_law_sign.kp T.b_law_sign .nil passN (pa_cons (pv 1) (pa_cons (pv 2) (pa_cons (pv 7) pa_nil)))))) (nomark _)) (pss_one (ps_ret pe_bl)) pss_nil)
    (pss_cons (ps_if (PW.pt (pw_or (pt_cmpR (op_neD (hu64 hr)) (pe_callIK (E := E0) (pv 3) T.co_Row (ok_Row_call T) (hr.mono (by decide)) T.kb_Row_call_1_number passN (pk_cons (pe_ix ix_seq (pv 5) (pe_un un_negD pe_int) (fun _ _ => rfl)) pk_nil)) (pe_callI (E := E0) (pv 4) T.co_Row (ok_Row_call T) (hr.mono (by decide)) T.b_Row_call passN (pa_cons (pe_ix ix_seq (pv 5) (pe_un un_negD pe_int) (fun _ _ => rfl)) pa_nil)) (nomark _)) (pw_or (pt_not (pt_cmpR (op_ownEq (E := E0) T.me_Row_eq.at_ T.me_Row_eq.fn (ok_Row_eq T) T.b_Row_eq (hr.mono (by decide)) passN) (pv 3) (pv 4) (nomark _))) (pw_or (pt_cmpR (op_ownNe (E := E0) T.cl_Row T.me_Row_eq.at_ T.ne_Row T.me_Row_eq.fn (ok_Row_eq T) T.b_Row_eq (hr.mono (by decide)) passN) (pv 3) (pv 4) (nomark _)) (pw_or1 (pt_cmpR (op_ownEq (E := E0) T.me_Row_eq.at_ T.me_Row_eq.fn (ok_Row_eq T) T.b_Row_eq (hr.mono (by decide)) passN) (pv 3) (pv 2) (nomark _))))))) (pss_one (ps_ret pe_bl)) pss_nil)
    (pss_cons (ps_set (i := 8) sc_law_right.nd rfl (by first | exact Or.inl rfl | exact Or.inr rfl) (pe_call (E := E0) (ok_law_table T) (hr.mono (by decide)) (by rfl) T.g_law_table T.F_law_table.kp T.b_law_table .nil passN (pa_cons (pv 0) (pa_cons (pv 1) pa_nil))))
    (pss_cons (ps_if (pt_cmpR (op_neD (hu64 hr)) (pe_cmpR (op_ownEq (E := E0) T.me_Row_eq.at_ T.me_Row_eq.fn (ok_Row_eq T) T.b_Row_eq (hr.mono (by decide)) passN) (pv 3) (pe_make (E := E0) T.mk_Row (ok_Row_init T) (hr.mono (by decide)) (by rfl) T.m_Row T.b_Row_init .nil passN (pa_cons (pe_make (E := E0) T.mk_System (ok_System_init T) (hr.mono (by decide)) (by rfl) T.m_System T.b_System_init .nil passN (pa_cons (pv 1) pa_nil)) (pa_cons (pe_ix ix_seq (pv 8) pe_int (fun _ _ => rfl)) (pa_cons (pe_ix ix_seq (pv 8) pe_int (fun _ _ => rfl)) pa_nil)))) (nomark _)) (pe_cmpR (op_eqD (hu64 hr)) (pv 2) (pv 8) (nomark _)) (nomark _)) (pss_one (ps_ret pe_bl)) pss_nil)
    (pss_cons (ps_set (i := 9) sc_law_right.nd rfl (by first | exact Or.inl rfl | exact Or.inr rfl) (pe_op op_addD (pe_slice sl_D (pe_ix ix_seq (pv 2) pe_int (fun _ _ => rfl)) po_none (po_some (pe_un un_negD pe_int))) (pe_ifExp (pt_cmpR (op_neD (hu64 hr)) (pe_ix ix_seq (pe_ix ix_seq (pv 2) pe_int (fun _ _ => rfl)) (pe_un un_negD pe_int) (fun _ _ => rfl)) pe_str (nomark _)) pe_str pe_str)))
    (pss_one (ps_if (PW.pt (pw_or (pt_cmpR (op_ownEq (E := E0) T.me_Row_eq.at_ T.me_Row_eq.fn (ok_Row_eq T) T.b_Row_eq (hr.mono (by decide)) passN) (pv 3) (pe_make (E := E0) T.mk_Row (ok_Row_init T) (hr.mono (by decide)) (by rfl) T.m_Row T.b_Row_init .nil passN (pa_cons (pe_make (E := E0) T.mk_System (ok_System_init T) (hr.mono (by decide)) (by rfl) T.m_System T.b_System_init .nil passN (pa_cons (pv 1) pa_nil)) (pa_cons (pe_ix ix_seq (pv 2) pe_int (fun _ _ => rfl)) (pa_cons (pv 9) pa_nil)))) (nomark _)) (pw_or1 (pt_not (pt_cmpR (op_ownNe (E := E0) T.cl_Row T.me_Row_eq.at_ T.ne_Row T.me_Row_eq.fn (ok_Row_eq T) T.b_Row_eq (hr.mono (by decide)) passN) (pv 3) (pe_make (E := E0) T.mk_Row (ok_Row_init T) (hr.mono (by decide)) (by rfl) T.m_Row T.b_Row_init .nil passN (pa_cons (pe_make (E := E0) T.mk_System (ok_System_init T) (hr.mono (by decide)) (by rfl) T.m_System T.b_System_init .nil passN (pa_cons (pv 1) pa_nil)) (pa_cons (pe_ix ix_seq (pv 2) pe_int (fun _ _ => rfl)) (pa_cons (pv 9) pa_nil)))) (nomark _)))))) (pss_one (ps_ret pe_bl)) pss_nil))))))))))))
    (pss_one (ps_ret (pe_cmpR (op_ownNe (E := E0) T.cl_Row T.me_Row_eq.at_ T.ne_Row T.me_Row_eq.fn (ok_Row_eq T) T.b_Row_eq (hr.mono (by decide)) passN) (pe_make (E := E0) T.mk_Row (ok_Row_init T) (hr.mono (by decide)) (by rfl) T.m_Row T.b_Row_init .nil passN (pa_cons (pe_make (E := E0) T.mk_System (ok_System_init T) (hr.mono (by decide)) (by rfl) T.m_System T.b_System_init .nil passN (pa_cons pe_int pa_nil)) (pa_cons (pe_tup (pa_cons (pe_tup (pa_cons pe_int (pa_cons pe_int pa_nil))) pa_nil)) (pa_cons pe_str pa_nil)))) (pe_make (E := E0) T.mk_Row (ok_Row_init T) (hr.mono (by decide)) (by rfl) T.m_Row T.b_Row_init .nil passN (pa_cons (pe_make (E := E0) T.mk_System (ok_System_init T) (hr.mono (by decide)) (by rfl) T.m_System T.b_System_init .nil passN (pa_cons pe_int pa_nil)) (pa_cons (pe_tup (pa_cons (pe_tup (pa_cons pe_int (pa_cons pe_int (pa_cons pe_int pa_nil)))) pa_nil)) (pa_cons pe_str pa_nil)))) (nomark _))))),
    (sims_seq (sims_for (simi_rng2 (sim_cons sim_int (sim_cons sim_int sim_nil))) (simg_name (i := 1)) (sims_seq (sims_asg (i := 2) (sim_call0 rd0 (sim_cons (sim_var (i := 0)) (sim_cons (sim_var (i := 1)) sim_nil))))
    (sims_seq (sims_asgG (sim_tup (sim_cons (sim_make0 rd0 (sim_cons (sim_make0 rd0 (sim_cons (sim_var (i := 1)) sim_nil)) (sim_cons (sim_op sim_ix (sim_var (i := 2)) sim_int) (sim_cons (sim_op sim_ix (sim_var (i := 2)) sim_int) sim_nil)))) (sim_cons (sim_makeK0 (pw_hv [2, 1, 0]) (pw_ok [2, 1, 0]) (sim_cons (sim_op sim_ix (sim_var (i := 2)) sim_int) (sim_cons (sim_op sim_ix (sim_var (i := 2)) sim_int) (sim_cons (sim_make0 rd0 (sim_cons (sim_var (i := 1)) sim_nil)) sim_nil)))) sim_nil))) (simg_names (js := [3, 4]) (n := 2)))
    (sims_seq (sims_if (simt_test (sim_op sim_cmpG (sim_fz (sim_lstO (sim_cons (sim_fldC T.cl_Row T.na_Row_system (sim_var (i := 3))) (sim_cons (sim_fldC T.cl_Row T.na_Row_moves (sim_var (i := 3))) (sim_cons (sim_fldC T.cl_Row T.na_Row_signs (sim_var (i := 3))) (sim_cons (sim_cb sim_lenO (sim_cons (sim_var (i := 3)) sim_nil)) sim_nil)))))) (sim_fz (sim_lstO (sim_cons (sim_make0 rd0 (sim_cons (sim_var (i := 1)) sim_nil)) (sim_cons (sim_op sim_ix (sim_var (i := 2)) sim_int) (sim_cons (sim_op sim_ix (sim_var (i := 2)) sim_int) (sim_cons (sim_cb sim_len (sim_cons (sim_op sim_ix (sim_var (i := 2)) sim_int) sim_nil)) sim_nil)))))))) (sims_ret sim_bl) sims_next)
    (sims_seq (sims_asg (i := 5) (sim_op sim_add (sim_fz (simo_lrg1 sim_int)) (sim_fz (simo_lc (simi_rng1 (sim_cons sim_int sim_nil)) (simg_name (i := 6)) simt_yes (sim_call0 rd0 (sim_cons (sim_var (i := 0)) (sim_cons (sim_var (i := 1)) sim_nil))) (by decide)))))
    (sims_seq (sims_if (simt_test (sim_op sim_ne (sim_fz (simo_lc (simi_list (sim_var (i := 5))) (simg_name (i := 7)) simt_yes (sim_callI0 (sim_var (i := 3)) (sim_cons (sim_var (i := 7)) sim_nil)) (by decide))) (sim_fz (simo_lc (simi_list (sim_var (i := 5))) (simg_name (i := 7)) simt_yes (sim_call0 rd0 (sim_cons (sim_var (i := 1)) (sim_cons (sim_var (i := 2)) (sim_cons (sim_var (i := 7)) sim_nil)))) (by decide))))) (sims_ret sim_bl) sims_next)
    (sims_seq (sims_if (simt_or (simt_test (sim_op sim_ne (sim_callIK0 (pm_ok [0]) (sim_var (i := 3)) (sim_cons (sim_op sim_ix (sim_var (i := 5)) (sim_un sim_neg sim_int)) sim_nil)) (sim_callI0 (sim_var (i := 4)) (sim_cons (sim_op sim_ix (sim_var (i := 5)) (sim_un sim_neg sim_int)) sim_nil)))) (simt_or (simt_not (simt_test (sim_op (sim_eqO T.ty) (sim_var (i := 3)) (sim_var (i := 4))))) (simt_or (simt_test (sim_op (sim_neO T.ty) (sim_var (i := 3)) (sim_var (i := 4)))) (simt_test (sim_op (sim_eqO T.ty) (sim_var (i := 3)) (sim_var (i := 2))))))) (sims_ret sim_bl) sims_next)
    (sims_seq (sims_asg (i := 8) (sim_call0 rd0 (sim_cons (sim_var (i := 0)) (sim_cons (sim_var (i := 1)) sim_nil))))
    (sims_seq (sims_if (simt_test (sim_op sim_ne (sim_op (sim_eqO T.ty) (sim_var (i := 3)) (sim_make0 rd0 (sim_cons (sim_make0 rd0 (sim_cons (sim_var (i := 1)) sim_nil)) (sim_cons (sim_op sim_ix (sim_var (i := 8)) sim_int) (sim_cons (sim_op sim_ix (sim_var (i := 8)) sim_int) sim_nil))))) (sim_op sim_eq (sim_var (i := 2)) (sim_var (i := 8))))) (sims_ret sim_bl) sims_next)
    (sims_seq (sims_asg (i := 9) (sim_op sim_add (sim_sl (sim_op sim_ix (sim_var (i := 2)) sim_int) simp_no (simp_part (sim_un sim_neg sim_int))) (sim_if (simt_test (sim_op sim_ne (sim_op sim_ix (sim_op sim_ix (sim_var (i := 2)) sim_int) (sim_un sim_neg sim_int)) sim_str)) sim_str sim_str)))
    (sims_if (simt_or (simt_test (sim_op (sim_eqO T.ty) (sim_var (i := 3)) (sim_make0 rd0 (sim_cons (sim_make0 rd0 (sim_cons (sim_var (i := 1)) sim_nil)) (sim_cons (sim_op sim_ix (sim_var (i := 2)) sim_int) (sim_cons (sim_var (i := 9)) sim_nil)))))) (simt_not (simt_test (sim_op (sim_neO T.ty) (sim_var (i := 3)) (sim_make0 rd0 (sim_cons (sim_make0 rd0 (sim_cons (sim_var (i := 1)) sim_nil)) (sim_cons (sim_op sim_ix (sim_var (i := 2)) sim_int) (sim_cons (sim_var (i := 9)) sim_nil)))))))) (sims_ret sim_bl) sims_next)))))))))))
    (sims_ret (sim_op (sim_neO T.ty) (sim_make0 rd0 (sim_cons (sim_make0 rd0 (sim_cons sim_int sim_nil)) (sim_cons (sim_tup (sim_cons (sim_tup (sim_cons sim_int (sim_cons sim_int sim_nil))) sim_nil)) (sim_cons sim_str sim_nil)))) (sim_make0 rd0 (sim_cons (sim_make0 rd0 (sim_cons sim_int sim_nil)) (sim_cons (sim_tup (sim_cons (sim_tup (sim_cons sim_int (sim_cons sim_int (sim_cons sim_int sim_nil)))) sim_nil)) (sim_cons sim_str sim_nil))))))), hw_law_right A⟩)
theorem ok_law_bag (T : Txt K mg A F) : FnOk P w K mg base (L2.CX P w) 1 F.a_law_bag F.d_law_bag ["_law_cells", "_law_k"] (spOf K 2 (S_law_bag A)) := by
  exact ok_def T.F_law_bag sc_law_bag (by decide) (fun cdv Ar outer s H E hr => ⟨_, w_law_bag A,
    (pss_cons (ps_par (i := 2) (j := 3) rfl sc_law_bag.nd rfl rfl (by decide) rfl rfl (pa_cons (pe_ifExp (pt_cmpR op_ltD (pv 1) (pe_callB call_len (by rfl) T.z_len bt_len (pa_cons (pv 0) pa_nil)) (nomark _)) (pe_callTy call_int1 (by rfl) T.z_int bt_int (pa_cons (pe_ix ix_seq (pv 0) (pv 1) (fun _ _ => rfl)) pa_nil)) pe_int) (pa_cons (pe_op op_mulT pe_int (pe_op op_addD (pv 1) pe_int)) pa_nil)) rfl)
    (pss_cons (ps_for PassesOwn.leaving rfl (pi_list (pe_slice sl_D (pv 0) po_none (po_some pe_int))) (pg_name (i := 4) sc_law_bag.nd rfl (by first | exact Or.inl rfl | exact Or.inr rfl)) (pss_one (ps_set (i := 3) sc_law_bag.nd rfl (by first | exact Or.inl rfl | exact Or.inr rfl) (pe_op op_modD (pe_callTy call_int1 (by rfl) T.z_int bt_int (pa_cons (pe_op op_addD (pe_op op_addD (pe_op op_mulT (pv 3) pe_int) (pe_op op_modD (pe_callTy call_int1 (by rfl) T.z_int bt_int (pa_cons (pv 4) pa_nil)) pe_int)) (pe_op op_mulT pe_int (pv 1))) pa_nil)) pe_int))))
    (pss_cons (ps_set (i := 5) sc_law_bag.nd rfl (by first | exact Or.inl rfl | exact Or.inr rfl) (pe_ifExp (PW.pt (pw_or (pt_cmpR op_ltD (pv 2) pe_int (nomark _)) (pw_or1 (pt_cmpR op_geD (pv 2) (pe_op op_powD pe_int pe_int) (nomark _))))) (pe_callB call_abs (by rfl) T.z_abs bt_abs (pa_cons (pv 2) pa_nil)) pe_int))
    (pss_one (ps_ret (pe_asBag (pe_lst (pa_cons (pv 5) (pa_cons (pe_op op_modD (pe_callTy call_int1 (by rfl) T.z_int bt_int (pa_cons (pe_op op_addD (pv 3) (pe_op op_mulT pe_int (pe_op op_modD (pe_callTy call_int1 (by rfl) T.z_int bt_int (pa_cons (pv 2) pa_nil)) pe_int))) pa_nil)) pe_int) (pa_cons pe_int pa_nil)))))))))),
    (sims_seq (sims_par (i := 2) (j := 3) (sim_if (simt_test (sim_op sim_lt (sim_var (i := 1)) (sim_cb sim_len (sim_cons (sim_var (i := 0)) sim_nil)))) (sim_cb sim_toInt (sim_cons (sim_op sim_ix (sim_var (i := 0)) (sim_var (i := 1))) sim_nil)) sim_int) (sim_op sim_mulT sim_int (sim_op sim_add (sim_var (i := 1)) sim_int)))
    (sims_seq (sims_for (simi_list (sim_sl (sim_var (i := 0)) simp_no (simp_part sim_int))) (simg_name (i := 4)) (sims_asg (i := 3) (sim_op sim_mod (sim_cb sim_toInt (sim_cons (sim_op sim_add (sim_op sim_add (sim_op sim_mulT (sim_var (i := 3)) sim_int) (sim_op sim_mod (sim_cb sim_toInt (sim_cons (sim_var (i := 4)) sim_nil)) sim_int)) (sim_op sim_mulT sim_int (sim_var (i := 1)))) sim_nil)) sim_int)))
    (sims_seq (sims_asg (i := 5) (sim_if (simt_or (simt_test (sim_op sim_lt (sim_var (i := 2)) sim_int)) (simt_test (sim_op sim_ge (sim_var (i := 2)) (sim_op sim_pow sim_int sim_int)))) (sim_cb sim_abs (sim_cons (sim_var (i := 2)) sim_nil)) sim_int))
    (sims_ret (sim_asBag (sim_lstO (sim_cons (sim_var (i := 5)) (sim_cons (sim_op sim_mod (sim_cb sim_toInt (sim_cons (sim_op sim_add (sim_var (i := 3)) (sim_op sim_mulT sim_int (sim_op sim_mod (sim_cb sim_toInt (sim_cons (sim_var (i := 2)) sim_nil)) sim_int))) sim_nil)) sim_int) (sim_cons sim_int sim_nil))))))))), hw_law_bag A⟩)
theorem ok_law (T : Txt K mg A F) : FnOk P w K mg base (L2.CX P w) 8 F.a_law F.d_law ["_law_cells"] (spOf K 1 (S_law A)) := by
  exact ok_def T.F_law sc_law (by decide) (fun cdv Ar outer s H E hr => ⟨_, w_law A,
    (pss_one (ps_ret (pe_callB (cr_all rfl) (by rfl) T.z_all bt_all (pa_cons (pe_lc rfl sc_law.nd (pi_range1 (by rfl) T.z_range (pa_cons (pe_callB (call_max2 rfl) (by rfl) T.z_max bt_max (pa_cons pe_int (pa_cons (pe_callB (call_min2 rfl) (by rfl) T.z_min bt_min (pa_cons (pe_callB call_len (by rfl) T.z_len bt_len (pa_cons (pv 0) pa_nil)) (pa_cons pe_int pa_nil))) pa_nil))) pa_nil)) (own := [("_law_k", 1)]) (blkOk_by (by kernel_rfl)) (fun _ _ _ _ _ => (pg_name (i := 1) sc_law.nd rfl (by first | exact Or.inl rfl | exact Or.inr rfl))) (fun _ _ _ _ _ => pts_nil) (fun _ _ _ _ _ => (pe_call (E := E0) (ok_law_right T) (hr.mono (by decide)) (by rfl) T.g_law_right T.F_law_right.kp T.b_law_right .nil passN (pa_cons (pe_call (E := E0) (ok_law_bag T) (hr.mono (by decide)) (by rfl) T.g_law_bag T.F_law_bag.kp T.b_law_bag .nil passN (pa_cons (pv 0) (pa_cons (pv 1) pa_nil))) pa_nil)))) pa_nil)))),
    (sims_ret (sim_cbl sim_allL (siml_O (simo_lc (simi_rng1 (sim_cons (sim_cb sim_max2 (sim_cons sim_int (sim_cons (sim_cb sim_min2 (sim_cons (sim_cb sim_len (sim_cons (sim_var (i := 0)) sim_nil)) (sim_cons sim_int sim_nil))) sim_nil))) sim_nil)) (simg_name (i := 1)) simt_yes (sim_call0 rd0 (sim_cons (sim_call0 rd0 (sim_cons (sim_var (i := 0)) (sim_cons (sim_var (i := 1)) sim_nil))) sim_nil)) (by decide))))), hw_law A⟩)
end
end Lw
namespace Lw
open PySem L2 DL
open PySem.Spec PyProof.Rows
theorem all_mk {l : PySem.W.OpenLaw} {w : World} {K : PySem.W.Frag} {h : Heap} {mg : Str → Option Value} {fa c_System c_Row f_System_eq f_Row_eq f_law_draw f_law_one f_law_table f_check_system f_is_integer f_is_number f_are_moves f_are_small f_Row_init f_System_init f_Row_len f_law_units f_law_great f_units_up_to f_digits_of f_sign_at f_Row_call f_law_digits f_law_sign f_law_right f_law_bag f_law : Addr} {oc_System_eq kV_System_eq dc_System_eq pm_System_eq cd_System_eq ct_System_eq : Value} {od_System_eq an_System_eq : Option Addr} {sl_System_eq : Array (Option Value)}
    {oc_Row_eq kV_Row_eq dc_Row_eq pm_Row_eq cd_Row_eq ct_Row_eq : Value} {od_Row_eq an_Row_eq : Option Addr} {sl_Row_eq : Array (Option Value)}
    {oc_law_draw kV_law_draw dc_law_draw pm_law_draw cd_law_draw ct_law_draw : Value} {od_law_draw an_law_draw : Option Addr} {sl_law_draw : Array (Option Value)}
    {oc_law_one kV_law_one dc_law_one pm_law_one cd_law_one ct_law_one : Value} {od_law_one an_law_one : Option Addr} {sl_law_one : Array (Option Value)}
    {oc_law_table kV_law_table dc_law_table pm_law_table cd_law_table ct_law_table : Value} {od_law_table an_law_table : Option Addr} {sl_law_table : Array (Option Value)}
    {oc_check_system kV_check_system dc_check_system pm_check_system cd_check_system ct_check_system : Value} {od_check_system an_check_system : Option Addr} {sl_check_system : Array (Option Value)}
    {oc_is_integer kV_is_integer dc_is_integer pm_is_integer cd_is_integer ct_is_integer : Value} {od_is_integer an_is_integer : Option Addr} {sl_is_integer : Array (Option Value)}
    {oc_is_number kV_is_number dc_is_number pm_is_number cd_is_number ct_is_number : Value} {od_is_number an_is_number : Option Addr} {sl_is_number : Array (Option Value)}
    {dt_is_number : Addr} {doc_is_number : Value} {dod_is_number : Option Addr} {dsl_is_number : Array (Option Value)} {dn_is_number : Nat}
    {oc_are_moves kV_are_moves dc_are_moves pm_are_moves cd_are_moves ct_are_moves : Value} {od_are_moves an_are_moves : Option Addr} {sl_are_moves : Array (Option Value)}
    {oc_are_small kV_are_small dc_are_small pm_are_small cd_are_small ct_are_small : Value} {od_are_small an_are_small : Option Addr} {sl_are_small : Array (Option Value)}
    {oc_Row_init kV_Row_init dc_Row_init pm_Row_init cd_Row_init ct_Row_init : Value} {od_Row_init an_Row_init : Option Addr} {sl_Row_init : Array (Option Value)}
    {oc_System_init kV_System_init dc_System_init pm_System_init cd_System_init ct_System_init : Value} {od_System_init an_System_init : Option Addr} {sl_System_init : Array (Option Value)}
    {oc_Row_len kV_Row_len dc_Row_len pm_Row_len cd_Row_len ct_Row_len : Value} {od_Row_len an_Row_len : Option Addr} {sl_Row_len : Array (Option Value)}
    {oc_law_units kV_law_units dc_law_units pm_law_units cd_law_units ct_law_units : Value} {od_law_units an_law_units : Option Addr} {sl_law_units : Array (Option Value)}
    {oc_law_great kV_law_great dc_law_great pm_law_great cd_law_great ct_law_great : Value} {od_law_great an_law_great : Option Addr} {sl_law_great : Array (Option Value)}
    {oc_units_up_to kV_units_up_to dc_units_up_to pm_units_up_to cd_units_up_to ct_units_up_to : Value} {od_units_up_to an_units_up_to : Option Addr} {sl_units_up_to : Array (Option Value)}
    {oc_digits_of kV_digits_of dc_digits_of pm_digits_of cd_digits_of ct_digits_of : Value} {od_digits_of an_digits_of : Option Addr} {sl_digits_of : Array (Option Value)}
    {oc_sign_at kV_sign_at dc_sign_at pm_sign_at cd_sign_at ct_sign_at : Value} {od_sign_at an_sign_at : Option Addr} {sl_sign_at : Array (Option Value)}
    {oc_Row_call kV_Row_call dc_Row_call pm_Row_call cd_Row_call ct_Row_call : Value} {od_Row_call an_Row_call : Option Addr} {sl_Row_call : Array (Option Value)}
    {oc_law_digits kV_law_digits dc_law_digits pm_law_digits cd_law_digits ct_law_digits : Value} {od_law_digits an_law_digits : Option Addr} {sl_law_digits : Array (Option Value)}
    {oc_law_sign kV_law_sign dc_law_sign pm_law_sign cd_law_sign ct_law_sign : Value} {od_law_sign an_law_sign : Option Addr} {sl_law_sign : Array (Option Value)}
    {oc_law_right kV_law_right dc_law_right pm_law_right cd_law_right ct_law_right : Value} {od_law_right an_law_right : Option Addr} {sl_law_right : Array (Option Value)}
    {oc_law_bag kV_law_bag dc_law_bag pm_law_bag cd_law_bag ct_law_bag : Value} {od_law_bag an_law_bag : Option Addr} {sl_law_bag : Array (Option Value)}
    {oc_law kV_law dc_law pm_law cd_law ct_law : Value} {od_law an_law : Option Addr} {sl_law : Array (Option Value)}
    {ccd_System : ClassData}
    {ccd_Row : ClassData}
    {t_MOST_NUMBER : Tok}
    {t_MOST_STANDS : Tok}
    {t_MOST_STEP : Tok} (X : K.In h) (G : h.Ns mainGlobals mg) (hfa : mg "law" = some (.ref fa))
    (g_System : PySem.W.nsIn K mainGlobals "System" = some (some (.ref c_System)))
    (g_Row : PySem.W.nsIn K mainGlobals "Row" = some (some (.ref c_Row)))
    (a_System_eq : PySem.W.findIn K (.ref c_System) "__eq__" = some (some (.ref f_System_eq)))
    (l_System_eq : K.lookup f_System_eq = some ⟨oc_System_eq, od_System_eq, .func (PySem.W.fnOf "__eq__" "System.__eq__" (defArgs s_System_eq) (defBody s_System_eq) (defScope s_System_eq) .none kV_System_eq dc_System_eq pm_System_eq an_System_eq cd_System_eq ct_System_eq), sl_System_eq⟩)
    (c_System_eq : PySem.W.codeIn K cd_System_eq "System.__eq__" = true)
    (k_System_eq : PySem.W.keepIn K (.ref f_System_eq) = true)
    (i_System_eq : PySem.W.isFn K (.ref f_System_eq) = true)
    (a_Row_eq : PySem.W.findIn K (.ref c_Row) "__eq__" = some (some (.ref f_Row_eq)))
    (l_Row_eq : K.lookup f_Row_eq = some ⟨oc_Row_eq, od_Row_eq, .func (PySem.W.fnOf "__eq__" "Row.__eq__" (defArgs s_Row_eq) (defBody s_Row_eq) (defScope s_Row_eq) .none kV_Row_eq dc_Row_eq pm_Row_eq an_Row_eq cd_Row_eq ct_Row_eq), sl_Row_eq⟩)
    (c_Row_eq : PySem.W.codeIn K cd_Row_eq "Row.__eq__" = true)
    (k_Row_eq : PySem.W.keepIn K (.ref f_Row_eq) = true)
    (i_Row_eq : PySem.W.isFn K (.ref f_Row_eq) = true)
    (a_law_draw : PySem.W.nsIn K mainGlobals "_law_draw" = some (some (.ref f_law_draw)))
    (l_law_draw : K.lookup f_law_draw = some ⟨oc_law_draw, od_law_draw, .func (PySem.W.fnOf "_law_draw" "_law_draw" (defArgs s_law_draw) (defBody s_law_draw) (defScope s_law_draw) .none kV_law_draw dc_law_draw pm_law_draw an_law_draw cd_law_draw ct_law_draw), sl_law_draw⟩)
    (c_law_draw : PySem.W.codeIn K cd_law_draw "_law_draw" = true)
    (k_law_draw : PySem.W.keepIn K (.ref f_law_draw) = true)
    (a_law_one : PySem.W.nsIn K mainGlobals "_law_one" = some (some (.ref f_law_one)))
    (l_law_one : K.lookup f_law_one = some ⟨oc_law_one, od_law_one, .func (PySem.W.fnOf "_law_one" "_law_one" (defArgs s_law_one) (defBody s_law_one) (defScope s_law_one) .none kV_law_one dc_law_one pm_law_one an_law_one cd_law_one ct_law_one), sl_law_one⟩)
    (c_law_one : PySem.W.codeIn K cd_law_one "_law_one" = true)
    (k_law_one : PySem.W.keepIn K (.ref f_law_one) = true)
    (a_law_table : PySem.W.nsIn K mainGlobals "_law_table" = some (some (.ref f_law_table)))
    (l_law_table : K.lookup f_law_table = some ⟨oc_law_table, od_law_table, .func (PySem.W.fnOf "_law_table" "_law_table" (defArgs s_law_table) (defBody s_law_table) (defScope s_law_table) .none kV_law_table dc_law_table pm_law_table an_law_table cd_law_table ct_law_table), sl_law_table⟩)
    (c_law_table : PySem.W.codeIn K cd_law_table "_law_table" = true)
    (k_law_table : PySem.W.keepIn K (.ref f_law_table) = true)
    (a_check_system : PySem.W.nsIn K mainGlobals "check_system" = some (some (.ref f_check_system)))
    (l_check_system : K.lookup f_check_system = some ⟨oc_check_system, od_check_system, .func (PySem.W.fnOf "check_system" "check_system" (defArgs s_check_system) (defBody s_check_system) (defScope s_check_system) .none kV_check_system dc_check_system pm_check_system an_check_system cd_check_system ct_check_system), sl_check_system⟩)
    (c_check_system : PySem.W.codeIn K cd_check_system "check_system" = true)
    (k_check_system : PySem.W.keepIn K (.ref f_check_system) = true)
    (a_is_integer : PySem.W.nsIn K mainGlobals "is_integer" = some (some (.ref f_is_integer)))
    (l_is_integer : K.lookup f_is_integer = some ⟨oc_is_integer, od_is_integer, .func (PySem.W.fnOf "is_integer" "is_integer" (defArgs s_is_integer) (defBody s_is_integer) (defScope s_is_integer) .none kV_is_integer dc_is_integer pm_is_integer an_is_integer cd_is_integer ct_is_integer), sl_is_integer⟩)
    (c_is_integer : PySem.W.codeIn K cd_is_integer "is_integer" = true)
    (k_is_integer : PySem.W.keepIn K (.ref f_is_integer) = true)
    (a_is_number : PySem.W.nsIn K mainGlobals "is_number" = some (some (.ref f_is_number)))
    (l_is_number : K.lookup f_is_number = some ⟨oc_is_number, od_is_number, .func (PySem.W.fnOf "is_number" "is_number" (defArgs s_is_number) (defBody s_is_number) (defScope s_is_number) (.ref dt_is_number) kV_is_number dc_is_number pm_is_number an_is_number cd_is_number ct_is_number), sl_is_number⟩)
    (d_is_number : K.lookup dt_is_number = some ⟨doc_is_number, dod_is_number, .seq #[.none] dn_is_number, dsl_is_number⟩)
    (c_is_number : PySem.W.codeIn K cd_is_number "is_number" = true)
    (k_is_number : PySem.W.keepIn K (.ref f_is_number) = true)
    (a_are_moves : PySem.W.nsIn K mainGlobals "are_moves" = some (some (.ref f_are_moves)))
    (l_are_moves : K.lookup f_are_moves = some ⟨oc_are_moves, od_are_moves, .func (PySem.W.fnOf "are_moves" "are_moves" (defArgs s_are_moves) (defBody s_are_moves) (defScope s_are_moves) .none kV_are_moves dc_are_moves pm_are_moves an_are_moves cd_are_moves ct_are_moves), sl_are_moves⟩)
    (c_are_moves : PySem.W.codeIn K cd_are_moves "are_moves" = true)
    (k_are_moves : PySem.W.keepIn K (.ref f_are_moves) = true)
    (a_are_small : PySem.W.nsIn K mainGlobals "are_small" = some (some (.ref f_are_small)))
    (l_are_small : K.lookup f_are_small = some ⟨oc_are_small, od_are_small, .func (PySem.W.fnOf "are_small" "are_small" (defArgs s_are_small) (defBody s_are_small) (defScope s_are_small) .none kV_are_small dc_are_small pm_are_small an_are_small cd_are_small ct_are_small), sl_are_small⟩)
    (c_are_small : PySem.W.codeIn K cd_are_small "are_small" = true)
    (k_are_small : PySem.W.keepIn K (.ref f_are_small) = true)
    (a_Row_init : PySem.W.findIn K (.ref c_Row) "__init__" = some (some (.ref f_Row_init)))
    (l_Row_init : K.lookup f_Row_init = some ⟨oc_Row_init, od_Row_init, .func (PySem.W.fnOf "__init__" "Row.__init__" (defArgs s_Row_init) (defBody s_Row_init) (defScope s_Row_init) .none kV_Row_init dc_Row_init pm_Row_init an_Row_init cd_Row_init ct_Row_init), sl_Row_init⟩)
    (c_Row_init : PySem.W.codeIn K cd_Row_init "Row.__init__" = true)
    (k_Row_init : PySem.W.keepIn K (.ref f_Row_init) = true)
    (i_Row_init : PySem.W.isFn K (.ref f_Row_init) = true)
    (a_System_init : PySem.W.findIn K (.ref c_System) "__init__" = some (some (.ref f_System_init)))
    (l_System_init : K.lookup f_System_init = some ⟨oc_System_init, od_System_init, .func (PySem.W.fnOf "__init__" "System.__init__" (defArgs s_System_init) (defBody s_System_init) (defScope s_System_init) .none kV_System_init dc_System_init pm_System_init an_System_init cd_System_init ct_System_init), sl_System_init⟩)
    (c_System_init : PySem.W.codeIn K cd_System_init "System.__init__" = true)
    (k_System_init : PySem.W.keepIn K (.ref f_System_init) = true)
    (i_System_init : PySem.W.isFn K (.ref f_System_init) = true)
    (a_Row_len : PySem.W.findIn K (.ref c_Row) "__len__" = some (some (.ref f_Row_len)))
    (l_Row_len : K.lookup f_Row_len = some ⟨oc_Row_len, od_Row_len, .func (PySem.W.fnOf "__len__" "Row.__len__" (defArgs s_Row_len) (defBody s_Row_len) (defScope s_Row_len) .none kV_Row_len dc_Row_len pm_Row_len an_Row_len cd_Row_len ct_Row_len), sl_Row_len⟩)
    (c_Row_len : PySem.W.codeIn K cd_Row_len "Row.__len__" = true)
    (k_Row_len : PySem.W.keepIn K (.ref f_Row_len) = true)
    (i_Row_len : PySem.W.isFn K (.ref f_Row_len) = true)
    (a_law_units : PySem.W.nsIn K mainGlobals "_law_units" = some (some (.ref f_law_units)))
    (l_law_units : K.lookup f_law_units = some ⟨oc_law_units, od_law_units, .func (PySem.W.fnOf "_law_units" "_law_units" (defArgs s_law_units) (defBody s_law_units) (defScope s_law_units) .none kV_law_units dc_law_units pm_law_units an_law_units cd_law_units ct_law_units), sl_law_units⟩)
    (c_law_units : PySem.W.codeIn K cd_law_units "_law_units" = true)
    (k_law_units : PySem.W.keepIn K (.ref f_law_units) = true)
    (a_law_great : PySem.W.nsIn K mainGlobals "_law_great" = some (some (.ref f_law_great)))
    (l_law_great : K.lookup f_law_great = some ⟨oc_law_great, od_law_great, .func (PySem.W.fnOf "_law_great" "_law_great" (defArgs s_law_great) (defBody s_law_great) (defScope s_law_great) .none kV_law_great dc_law_great pm_law_great an_law_great cd_law_great ct_law_great), sl_law_great⟩)
    (c_law_great : PySem.W.codeIn K cd_law_great "_law_great" = true)
    (k_law_great : PySem.W.keepIn K (.ref f_law_great) = true)
    (a_units_up_to : PySem.W.nsIn K mainGlobals "units_up_to" = some (some (.ref f_units_up_to)))
    (l_units_up_to : K.lookup f_units_up_to = some ⟨oc_units_up_to, od_units_up_to, .func (PySem.W.fnOf "units_up_to" "units_up_to" (defArgs s_units_up_to) (defBody s_units_up_to) (defScope s_units_up_to) .none kV_units_up_to dc_units_up_to pm_units_up_to an_units_up_to cd_units_up_to ct_units_up_to), sl_units_up_to⟩)
    (c_units_up_to : PySem.W.codeIn K cd_units_up_to "units_up_to" = true)
    (k_units_up_to : PySem.W.keepIn K (.ref f_units_up_to) = true)
    (a_digits_of : PySem.W.nsIn K mainGlobals "digits_of" = some (some (.ref f_digits_of)))
    (l_digits_of : K.lookup f_digits_of = some ⟨oc_digits_of, od_digits_of, .func (PySem.W.fnOf "digits_of" "digits_of" (defArgs s_digits_of) (defBody s_digits_of) (defScope s_digits_of) .none kV_digits_of dc_digits_of pm_digits_of an_digits_of cd_digits_of ct_digits_of), sl_digits_of⟩)
    (c_digits_of : PySem.W.codeIn K cd_digits_of "digits_of" = true)
    (k_digits_of : PySem.W.keepIn K (.ref f_digits_of) = true)
    (a_sign_at : PySem.W.nsIn K mainGlobals "sign_at" = some (some (.ref f_sign_at)))
    (l_sign_at : K.lookup f_sign_at = some ⟨oc_sign_at, od_sign_at, .func (PySem.W.fnOf "sign_at" "sign_at" (defArgs s_sign_at) (defBody s_sign_at) (defScope s_sign_at) .none kV_sign_at dc_sign_at pm_sign_at an_sign_at cd_sign_at ct_sign_at), sl_sign_at⟩)
    (c_sign_at : PySem.W.codeIn K cd_sign_at "sign_at" = true)
    (k_sign_at : PySem.W.keepIn K (.ref f_sign_at) = true)
    (a_Row_call : PySem.W.findIn K (.ref c_Row) "__call__" = some (some (.ref f_Row_call)))
    (l_Row_call : K.lookup f_Row_call = some ⟨oc_Row_call, od_Row_call, .func (PySem.W.fnOf "__call__" "Row.__call__" (defArgs s_Row_call) (defBody s_Row_call) (defScope s_Row_call) .none kV_Row_call dc_Row_call pm_Row_call an_Row_call cd_Row_call ct_Row_call), sl_Row_call⟩)
    (c_Row_call : PySem.W.codeIn K cd_Row_call "Row.__call__" = true)
    (k_Row_call : PySem.W.keepIn K (.ref f_Row_call) = true)
    (i_Row_call : PySem.W.isFn K (.ref f_Row_call) = true)
    (fi_Row_call : PySem.W.fnIn K f_Row_call = true)
    (a_law_digits : PySem.W.nsIn K mainGlobals "_law_digits" = some (some (.ref f_law_digits)))
    (l_law_digits : K.lookup f_law_digits = some ⟨oc_law_digits, od_law_digits, .func (PySem.W.fnOf "_law_digits" "_law_digits" (defArgs s_law_digits) (defBody s_law_digits) (defScope s_law_digits) .none kV_law_digits dc_law_digits pm_law_digits an_law_digits cd_law_digits ct_law_digits), sl_law_digits⟩)
    (c_law_digits : PySem.W.codeIn K cd_law_digits "_law_digits" = true)
    (k_law_digits : PySem.W.keepIn K (.ref f_law_digits) = true)
    (a_law_sign : PySem.W.nsIn K mainGlobals "_law_sign" = some (some (.ref f_law_sign)))
    (l_law_sign : K.lookup f_law_sign = some ⟨oc_law_sign, od_law_sign, .func (PySem.W.fnOf "_law_sign" "_law_sign" (defArgs s_law_sign) (defBody s_law_sign) (defScope s_law_sign) .none kV_law_sign dc_law_sign pm_law_sign an_law_sign cd_law_sign ct_law_sign), sl_law_sign⟩)
    (c_law_sign : PySem.W.codeIn K cd_law_sign "_law_sign" = true)
    (k_law_sign : PySem.W.keepIn K (.ref f_law_sign) = true)
    (a_law_right : PySem.W.nsIn K mainGlobals "_law_right" = some (some (.ref f_law_right)))
    (l_law_right : K.lookup f_law_right = some ⟨oc_law_right, od_law_right, .func (PySem.W.fnOf "_law_right" "_law_right" (defArgs s_law_right) (defBody s_law_right) (defScope s_law_right) .none kV_law_right dc_law_right pm_law_right an_law_right cd_law_right ct_law_right), sl_law_right⟩)
    (c_law_right : PySem.W.codeIn K cd_law_right "_law_right" = true)
    (k_law_right : PySem.W.keepIn K (.ref f_law_right) = true)
    (a_law_bag : PySem.W.nsIn K mainGlobals "_law_bag" = some (some (.ref f_law_bag)))
    (l_law_bag : K.lookup f_law_bag = some ⟨oc_law_bag, od_law_bag, .func (PySem.W.fnOf "_law_bag" "_law_bag" (defArgs s_law_bag) (defBody s_law_bag) (defScope s_law_bag) .none kV_law_bag dc_law_bag pm_law_bag an_law_bag cd_law_bag ct_law_bag), sl_law_bag⟩)
    (c_law_bag : PySem.W.codeIn K cd_law_bag "_law_bag" = true)
    (k_law_bag : PySem.W.keepIn K (.ref f_law_bag) = true)
    (a_law : PySem.W.nsIn K mainGlobals "law" = some (some (.ref f_law)))
    (l_law : K.lookup f_law = some ⟨oc_law, od_law, .func (PySem.W.fnOf "law" "law" (defArgs s_law) (defBody s_law) (defScope s_law) .none kV_law dc_law pm_law an_law cd_law ct_law), sl_law⟩)
    (c_law : PySem.W.codeIn K cd_law "law" = true)
    (k_law : PySem.W.keepIn K (.ref f_law) = true)
    (pg_System : PySem.W.plainGet K c_System Str.empty = true)
    (hd_System : PySem.W.hasDictIn K c_System = true)
    (po_System : PySem.W.plainOver K c_System = true)
    (sa_System : PySem.W.findIn K (.ref c_System) "__setattr__" = some (some (.builtin "object.__setattr__")))
    (mk_System : PySem.W.makesIn K c_System = true)
    (kc_System : PySem.W.keepIn K (.ref c_System) = true)
    (ha_System : PySem.W.findIn K (.ref c_System) "__class__" = some (some (.builtin "object.__class__")))
    (ci_System : PySem.W.clsIn K c_System = some ccd_System)
    (cm_System : ccd_System.mro = mroL [c_System] ["object"])
    (tp_System : PySem.W.typeIn K (.ref c_System) = some (.type "type"))
    (pg_Row : PySem.W.plainGet K c_Row Str.empty = true)
    (hd_Row : PySem.W.hasDictIn K c_Row = true)
    (po_Row : PySem.W.plainOver K c_Row = true)
    (sa_Row : PySem.W.findIn K (.ref c_Row) "__setattr__" = some (some (.builtin "object.__setattr__")))
    (mk_Row : PySem.W.makesIn K c_Row = true)
    (kc_Row : PySem.W.keepIn K (.ref c_Row) = true)
    (ha_Row : PySem.W.findIn K (.ref c_Row) "__class__" = some (some (.builtin "object.__class__")))
    (ci_Row : PySem.W.clsIn K c_Row = some ccd_Row)
    (cm_Row : ccd_Row.mro = mroL [c_Row] ["object"])
    (tp_Row : PySem.W.typeIn K (.ref c_Row) = some (.type "type"))
    (dc_System_Row : c_System ≠ c_Row)
    (oc_hn : PySem.W.specialIn K (.builtin "object.__class__") "__get__" = some (some (.builtin "getset_descriptor.__get__")))
    (oc_tk : PySem.W.takesIn K (.builtin "object.__class__") = some true)
    (ne_Row : PySem.W.findIn K (.ref c_Row) "__ne__" = some (some (.builtin "object.__ne__")))
    (na_Row_moves : PySem.W.findIn K (.ref c_Row) "moves" = some none)
    (na_Row_signs : PySem.W.findIn K (.ref c_Row) "signs" = some none)
    (na_Row_system : PySem.W.findIn K (.ref c_Row) "system" = some none)
    (na_System_step : PySem.W.findIn K (.ref c_System) "step" = some none)
    (z_abs : PySem.W.nsIn K mainGlobals "abs" = some none)
    (z_all : PySem.W.nsIn K mainGlobals "all" = some none)
    (z_bool : PySem.W.nsIn K mainGlobals "bool" = some none)
    (z_int : PySem.W.nsIn K mainGlobals "int" = some none)
    (z_isinstance : PySem.W.nsIn K mainGlobals "isinstance" = some none)
    (z_len : PySem.W.nsIn K mainGlobals "len" = some none)
    (z_list : PySem.W.nsIn K mainGlobals "list" = some none)
    (z_max : PySem.W.nsIn K mainGlobals "max" = some none)
    (z_min : PySem.W.nsIn K mainGlobals "min" = some none)
    (z_range : PySem.W.nsIn K mainGlobals "range" = some none)
    (z_str : PySem.W.nsIn K mainGlobals "str" = some none)
    (z_tuple : PySem.W.nsIn K mainGlobals "tuple" = some none)
    (v_MOST_NUMBER : PySem.W.nsIn K mainGlobals "MOST_NUMBER" = some (some (.int 10000000000000000000000000000000000000000 t_MOST_NUMBER)))
    (v_MOST_STANDS : PySem.W.nsIn K mainGlobals "MOST_STANDS" = some (some (.int 8 t_MOST_STANDS)))
    (v_MOST_STEP : PySem.W.nsIn K mainGlobals "MOST_STEP" = some (some (.int 3 t_MOST_STEP))) :
    ∃ fd : FuncData, (∀ (s : Shared) (v : Value), BindsTo s fd ⟨[v], []⟩ [("_law_cells", v)]) ∧ ∀ base : Heap, K.In base → base.Ns mainGlobals mg → FnOk l.prog w K mg base (L2.CX l.prog w) 8 fa fd ["_law_cells"] (spOf K 1 sLawD) := by
  have e := hfa.symm.trans (PySem.W.mg_of X G a_law)
  cases e
  have hne : [c_System, c_Row].Nodup := by
    simp only [List.nodup_cons, List.mem_cons, List.not_mem_nil, or_false, not_or, List.nodup_nil, and_true, not_false_eq_true, true_and]
    exact dc_System_Row
  have F_System_eq := fun_mk (st := s_System_eq) l_System_eq c_System_eq k_System_eq
  have b_System_eq := F_System_eq.binds (ps := ["self", "other"]) fun _ _ _ _ _ _ us hl => match us, hl with | [_, _], _ => rfl
  have F_Row_eq := fun_mk (st := s_Row_eq) l_Row_eq c_Row_eq k_Row_eq
  have b_Row_eq := F_Row_eq.binds (ps := ["self", "other"]) fun _ _ _ _ _ _ us hl => match us, hl with | [_, _], _ => rfl
  have F_law_draw := fun_mk (st := s_law_draw) l_law_draw c_law_draw k_law_draw
  have b_law_draw := F_law_draw.binds (ps := ["_law_bag_here", "_law_wide"]) fun _ _ _ _ _ _ us hl => match us, hl with | [_, _], _ => rfl
  have F_law_one := fun_mk (st := s_law_one) l_law_one c_law_one k_law_one
  have b_law_one := F_law_one.binds (ps := ["_law_bag_here", "_law_some"]) fun _ _ _ _ _ _ us hl => match us, hl with | [_, _], _ => rfl
  have F_law_table := fun_mk (st := s_law_table) l_law_table c_law_table k_law_table
  have b_law_table := F_law_table.binds (ps := ["_law_bag_here", "_law_level"]) fun _ _ _ _ _ _ us hl => match us, hl with | [_, _], _ => rfl
  have F_check_system := fun_mk (st := s_check_system) l_check_system c_check_system k_check_system
  have b_check_system := F_check_system.binds (ps := ["system"]) fun _ _ _ _ _ _ us hl => match us, hl with | [_], _ => rfl
  have F_is_integer := fun_mk (st := s_is_integer) l_is_integer c_is_integer k_is_integer
  have b_is_integer := F_is_integer.binds (ps := ["value"]) fun _ _ _ _ _ _ us hl => match us, hl with | [_], _ => rfl
  have F_is_number : FunD K "is_number" "is_number" (defArgs s_is_number) (defBody s_is_number) (defScope s_is_number) [.non] [] f_is_number (PySem.W.fnOf "is_number" "is_number" (defArgs s_is_number) (defBody s_is_number) (defScope s_is_number) (.ref dt_is_number) kV_is_number dc_is_number pm_is_number an_is_number cd_is_number ct_is_number) := ⟨⟨_, _, _, _, _, _, _, _, _, _, rfl, l_is_number, c_is_number, .inr ⟨by simp, _, _, [.none], _, rfl, d_is_number, rfl, (.cons rfl .nil)⟩, .inl rfl⟩, k_is_number⟩
  have b_is_number : Binds K (PySem.W.fnOf "is_number" "is_number" (defArgs s_is_number) (defBody s_is_number) (defScope s_is_number) (.ref dt_is_number) kV_is_number dc_is_number pm_is_number an_is_number cd_is_number ct_is_number) ["value", "most"] [] := by
    obtain ⟨ds, hv, b⟩ := F_is_number.binds1 (ps := ["value", "most"]) 2 1 (by simp) rfl (fun T kV doc pm an cdv ct us its hu hi => match us, its, hu, hi with | [_, _], [_], _, _ => ⟨_, rfl, rfl⟩)
    cases hv
    exact b
  have F_are_moves := fun_mk (st := s_are_moves) l_are_moves c_are_moves k_are_moves
  have b_are_moves := F_are_moves.binds (ps := ["step", "value"]) fun _ _ _ _ _ _ us hl => match us, hl with | [_, _], _ => rfl
  have F_are_small := fun_mk (st := s_are_small) l_are_small c_are_small k_are_small
  have b_are_small := F_are_small.binds (ps := ["value", "least", "most"]) fun _ _ _ _ _ _ us hl => match us, hl with | [_, _, _], _ => rfl
  have F_Row_init := fun_mk (st := s_Row_init) l_Row_init c_Row_init k_Row_init
  have b_Row_init := F_Row_init.binds (ps := ["self", "system", "moves", "signs"]) fun _ _ _ _ _ _ us hl => match us, hl with | [_, _, _, _], _ => rfl
  have F_System_init := fun_mk (st := s_System_init) l_System_init c_System_init k_System_init
  have b_System_init := F_System_init.binds (ps := ["self", "step"]) fun _ _ _ _ _ _ us hl => match us, hl with | [_, _], _ => rfl
  have F_Row_len := fun_mk (st := s_Row_len) l_Row_len c_Row_len k_Row_len
  have b_Row_len := F_Row_len.binds (ps := ["self"]) fun _ _ _ _ _ _ us hl => match us, hl with | [_], _ => rfl
  have F_law_units := fun_mk (st := s_law_units) l_law_units c_law_units k_law_units
  have b_law_units := F_law_units.binds (ps := ["_law_level", "_law_many"]) fun _ _ _ _ _ _ us hl => match us, hl with | [_, _], _ => rfl
  have F_law_great := fun_mk (st := s_law_great) l_law_great c_law_great k_law_great
  have b_law_great := F_law_great.binds (ps := ["_law_bag_here", "_law_level"]) fun _ _ _ _ _ _ us hl => match us, hl with | [_, _], _ => rfl
  have F_units_up_to := fun_mk (st := s_units_up_to) l_units_up_to c_units_up_to k_units_up_to
  have b_units_up_to := F_units_up_to.binds (ps := ["step", "number"]) fun _ _ _ _ _ _ us hl => match us, hl with | [_, _], _ => rfl
  have F_digits_of := fun_mk (st := s_digits_of) l_digits_of c_digits_of k_digits_of
  have b_digits_of := F_digits_of.binds (ps := ["step", "number"]) fun _ _ _ _ _ _ us hl => match us, hl with | [_, _], _ => rfl
  have F_sign_at := fun_mk (st := s_sign_at) l_sign_at c_sign_at k_sign_at
  have b_sign_at := F_sign_at.binds (ps := ["row", "number"]) fun _ _ _ _ _ _ us hl => match us, hl with | [_, _], _ => rfl
  have F_Row_call := fun_mk (st := s_Row_call) l_Row_call c_Row_call k_Row_call
  have b_Row_call := F_Row_call.binds (ps := ["self", "number"]) fun _ _ _ _ _ _ us hl => match us, hl with | [_, _], _ => rfl
  have F_law_digits := fun_mk (st := s_law_digits) l_law_digits c_law_digits k_law_digits
  have b_law_digits := F_law_digits.binds (ps := ["_law_level", "_law_amount"]) fun _ _ _ _ _ _ us hl => match us, hl with | [_, _], _ => rfl
  have F_law_sign := fun_mk (st := s_law_sign) l_law_sign c_law_sign k_law_sign
  have b_law_sign := F_law_sign.binds (ps := ["_law_level", "_law_table_here", "_law_amount"]) fun _ _ _ _ _ _ us hl => match us, hl with | [_, _, _], _ => rfl
  have F_law_right := fun_mk (st := s_law_right) l_law_right c_law_right k_law_right
  have b_law_right := F_law_right.binds (ps := ["_law_bag_here"]) fun _ _ _ _ _ _ us hl => match us, hl with | [_], _ => rfl
  have F_law_bag := fun_mk (st := s_law_bag) l_law_bag c_law_bag k_law_bag
  have b_law_bag := F_law_bag.binds (ps := ["_law_cells", "_law_k"]) fun _ _ _ _ _ _ us hl => match us, hl with | [_, _], _ => rfl
  have F_law := fun_mk (st := s_law) l_law c_law k_law
  have b_law := F_law.binds (ps := ["_law_cells"]) fun _ _ _ _ _ _ us hl => match us, hl with | [_], _ => rfl
  have kb_Row_init_1_signs_moves_system := kb_perm (ps := ["self", "system", "moves", "signs"]) F_Row_init 1 ["signs", "moves", "system"] [2, 1, 0] fun _ _ _ _ _ _ us ws h1 h2 => match us, ws, h1, h2 with | [_], [_, _, _], _, _ => rfl
  have kb_Row_call_1_number := kb_perm (ps := ["self", "number"]) F_Row_call 1 ["number"] [0] fun _ _ _ _ _ _ us ws h1 h2 => match us, ws, h1, h2 with | [_], [_], _, _ => rfl
  have cl_System : Cls K c_System := ⟨pg_System, hd_System, po_System, sa_System⟩
  have cl_Row : Cls K c_Row := ⟨pg_Row, hd_Row, po_Row, sa_Row⟩
  have om_System : OwnM K c_System [c_System] ["object"] := ⟨⟨_, ci_System, cm_System⟩, rfl, by decide, by decide, tp_System⟩
  have om_Row : OwnM K c_Row [c_Row] ["object"] := ⟨⟨_, ci_Row, cm_Row⟩, rfl, by decide, by decide, tp_Row⟩
  have ty : TyOk K (cdOf [(c_System, [c_System]), (c_Row, [c_Row])]) := tyOk_of fun p hp => by
    simp only [List.mem_cons, List.not_mem_nil, or_false] at hp
    rcases hp with rfl | rfl
    · exact ⟨⟨cl_System, ha_System, oc_hn, oc_tk, om_System.object⟩, _, om_System⟩
    · exact ⟨⟨cl_Row, ha_Row, oc_hn, oc_tk, om_Row.object⟩, _, om_Row⟩
  have T : Txt K mg ⟨0, 0, 0, 0, 0, 0, 0, c_System, c_Row, hne⟩ ⟨f_System_eq, _, f_Row_eq, _, f_law_draw, _, f_law_one, _, f_law_table, _, f_check_system, _, f_is_integer, _, f_is_number, _, f_are_moves, _, f_are_small, _, f_Row_init, _, f_System_init, _, f_Row_len, _, f_law_units, _, f_law_great, _, f_units_up_to, _, f_digits_of, _, f_sign_at, _, f_Row_call, _, f_law_digits, _, f_law_sign, _, f_law_right, _, f_law_bag, _, fa, _⟩ := {
    F_System_eq := F_System_eq,
    b_System_eq := b_System_eq,
    me_System_eq := ⟨a_System_eq, i_System_eq, k_System_eq⟩,
    F_Row_eq := F_Row_eq,
    b_Row_eq := b_Row_eq,
    me_Row_eq := ⟨a_Row_eq, i_Row_eq, k_Row_eq⟩,
    F_law_draw := F_law_draw,
    b_law_draw := b_law_draw,
    g_law_draw := PySem.W.mg_of X G a_law_draw,
    F_law_one := F_law_one,
    b_law_one := b_law_one,
    g_law_one := PySem.W.mg_of X G a_law_one,
    F_law_table := F_law_table,
    b_law_table := b_law_table,
    g_law_table := PySem.W.mg_of X G a_law_table,
    F_check_system := F_check_system,
    b_check_system := b_check_system,
    g_check_system := PySem.W.mg_of X G a_check_system,
    F_is_integer := F_is_integer,
    b_is_integer := b_is_integer,
    g_is_integer := PySem.W.mg_of X G a_is_integer,
    F_is_number := F_is_number,
    b_is_number := b_is_number,
    g_is_number := PySem.W.mg_of X G a_is_number,
    F_are_moves := F_are_moves,
    b_are_moves := b_are_moves,
    g_are_moves := PySem.W.mg_of X G a_are_moves,
    F_are_small := F_are_small,
    b_are_small := b_are_small,
    g_are_small := PySem.W.mg_of X G a_are_small,
    F_Row_init := F_Row_init,
    b_Row_init := b_Row_init,
    mk_Row := ⟨mk_Row, a_Row_init, i_Row_init, kc_Row⟩,
    F_System_init := F_System_init,
    b_System_init := b_System_init,
    mk_System := ⟨mk_System, a_System_init, i_System_init, kc_System⟩,
    F_Row_len := F_Row_len,
    b_Row_len := b_Row_len,
    me_Row_len := ⟨a_Row_len, i_Row_len, k_Row_len⟩,
    F_law_units := F_law_units,
    b_law_units := b_law_units,
    g_law_units := PySem.W.mg_of X G a_law_units,
    F_law_great := F_law_great,
    b_law_great := b_law_great,
    g_law_great := PySem.W.mg_of X G a_law_great,
    F_units_up_to := F_units_up_to,
    b_units_up_to := b_units_up_to,
    g_units_up_to := PySem.W.mg_of X G a_units_up_to,
    F_digits_of := F_digits_of,
    b_digits_of := b_digits_of,
    g_digits_of := PySem.W.mg_of X G a_digits_of,
    F_sign_at := F_sign_at,
    b_sign_at := b_sign_at,
    g_sign_at := PySem.W.mg_of X G a_sign_at,
    F_Row_call := F_Row_call,
    b_Row_call := b_Row_call,
    co_Row := ⟨a_Row_call, i_Row_call, fi_Row_call⟩,
    me_Row_call := ⟨a_Row_call, i_Row_call, k_Row_call⟩,
    F_law_digits := F_law_digits,
    b_law_digits := b_law_digits,
    g_law_digits := PySem.W.mg_of X G a_law_digits,
    F_law_sign := F_law_sign,
    b_law_sign := b_law_sign,
    g_law_sign := PySem.W.mg_of X G a_law_sign,
    F_law_right := F_law_right,
    b_law_right := b_law_right,
    g_law_right := PySem.W.mg_of X G a_law_right,
    F_law_bag := F_law_bag,
    b_law_bag := b_law_bag,
    g_law_bag := PySem.W.mg_of X G a_law_bag,
    F_law := F_law,
    b_law := b_law,
    g_law := PySem.W.mg_of X G a_law,
    kb_Row_init_1_signs_moves_system := kb_Row_init_1_signs_moves_system,
    kb_Row_call_1_number := kb_Row_call_1_number,
    cl_System := cl_System,
    m_System := PySem.W.mg_of X G g_System,
    cl_Row := cl_Row,
    m_Row := PySem.W.mg_of X G g_Row,
    ne_Row := ne_Row,
    na_Row_moves := na_Row_moves,
    na_Row_signs := na_Row_signs,
    na_Row_system := na_Row_system,
    na_System_step := na_System_step,
    z_abs := PySem.W.mg_none_of X G z_abs,
    z_all := PySem.W.mg_none_of X G z_all,
    z_bool := PySem.W.mg_none_of X G z_bool,
    z_int := PySem.W.mg_none_of X G z_int,
    z_isinstance := PySem.W.mg_none_of X G z_isinstance,
    z_len := PySem.W.mg_none_of X G z_len,
    z_list := PySem.W.mg_none_of X G z_list,
    z_max := PySem.W.mg_none_of X G z_max,
    z_min := PySem.W.mg_none_of X G z_min,
    z_range := PySem.W.mg_none_of X G z_range,
    z_str := PySem.W.mg_none_of X G z_str,
    z_tuple := PySem.W.mg_none_of X G z_tuple,
    v_MOST_NUMBER := ⟨_, PySem.W.mg_of X G v_MOST_NUMBER, ⟨_, rfl⟩⟩,
    v_MOST_STANDS := ⟨_, PySem.W.mg_of X G v_MOST_STANDS, ⟨_, rfl⟩⟩,
    v_MOST_STEP := ⟨_, PySem.W.mg_of X G v_MOST_STEP, ⟨_, rfl⟩⟩,
    ty := ty }
  exact ⟨_, fun s v => .of_eq rfl, fun base _ _ => ok_law T⟩
end Lw
open PySem PySem.W PyProof.Rows
set_option maxRecDepth 100000 in
set_option maxHeartbeats 0 in
theorem PySem.Challenge.cw_goldenrows_k05_signs_of_rows_holds : PySem.Challenge.rw_goldenrows_k05_signs_of_rows.Holds := by
  w_on; o_law; k_head; (case hw => w_witness2)
  k_fill
  refine DL.walkD (l := PySem.Challenge.rw_goldenrows_k05_signs_of_rows) (k := 8) (x := "_law_cells") rfl rfl ⟨rfl, by decide, by decide⟩ (fun w h Y => PySem.W.kIn_of Y) ?F
  case F =>
    intro w mg fa h KX G hmg
    refine' Lw.all_mk KX G hmg ?g_System ?g_Row ?a_System_eq ?l_System_eq ?c_System_eq ?k_System_eq ?i_System_eq ?a_Row_eq ?l_Row_eq ?c_Row_eq ?k_Row_eq ?i_Row_eq ?a_law_draw ?l_law_draw ?c_law_draw ?k_law_draw ?a_law_one ?l_law_one ?c_law_one ?k_law_one ?a_law_table ?l_law_table ?c_law_table ?k_law_table ?a_check_system ?l_check_system ?c_check_system ?k_check_system ?a_is_integer ?l_is_integer ?c_is_integer ?k_is_integer ?a_is_number ?l_is_number ?d_is_number ?c_is_number ?k_is_number ?a_are_moves ?l_are_moves ?c_are_moves ?k_are_moves ?a_are_small ?l_are_small ?c_are_small ?k_are_small ?a_Row_init ?l_Row_init ?c_Row_init ?k_Row_init ?i_Row_init ?a_System_init ?l_System_init ?c_System_init ?k_System_init ?i_System_init ?a_Row_len ?l_Row_len ?c_Row_len ?k_Row_len ?i_Row_len ?a_law_units ?l_law_units ?c_law_units ?k_law_units ?a_law_great ?l_law_great ?c_law_great ?k_law_great ?a_units_up_to ?l_units_up_to ?c_units_up_to ?k_units_up_to ?a_digits_of ?l_digits_of ?c_digits_of ?k_digits_of ?a_sign_at ?l_sign_at ?c_sign_at ?k_sign_at ?a_Row_call ?l_Row_call ?c_Row_call ?k_Row_call ?i_Row_call ?fi_Row_call ?a_law_digits ?l_law_digits ?c_law_digits ?k_law_digits ?a_law_sign ?l_law_sign ?c_law_sign ?k_law_sign ?a_law_right ?l_law_right ?c_law_right ?k_law_right ?a_law_bag ?l_law_bag ?c_law_bag ?k_law_bag ?a_law ?l_law ?c_law ?k_law ?pg_System ?hd_System ?po_System ?sa_System ?mk_System ?kc_System ?ha_System ?ci_System ?cm_System ?tp_System ?pg_Row ?hd_Row ?po_Row ?sa_Row ?mk_Row ?kc_Row ?ha_Row ?ci_Row ?cm_Row ?tp_Row ?dc_System_Row ?oc_hn ?oc_tk ?ne_Row ?na_Row_moves ?na_Row_signs ?na_Row_system ?na_System_step ?z_abs ?z_all ?z_bool ?z_int ?z_isinstance ?z_len ?z_list ?z_max ?z_min ?z_range ?z_str ?z_tuple ?v_MOST_NUMBER ?v_MOST_STANDS ?v_MOST_STEP
    (case g_System => k_is)
    (case g_Row => k_is)
    (case a_System_eq => k_is)
    (case l_System_eq => k_is)
    (case c_System_eq => k_is)
    (case k_System_eq => k_is)
    (case i_System_eq => k_is)
    (case a_Row_eq => k_is)
    (case l_Row_eq => k_is)
    (case c_Row_eq => k_is)
    (case k_Row_eq => k_is)
    (case i_Row_eq => k_is)
    (case a_law_draw => k_is)
    (case l_law_draw => k_is)
    (case c_law_draw => k_is)
    (case k_law_draw => k_is)
    (case a_law_one => k_is)
    (case l_law_one => k_is)
    (case c_law_one => k_is)
    (case k_law_one => k_is)
    (case a_law_table => k_is)
    (case l_law_table => k_is)
    (case c_law_table => k_is)
    (case k_law_table => k_is)
    (case a_check_system => k_is)
    (case l_check_system => k_is)
    (case c_check_system => k_is)
    (case k_check_system => k_is)
    (case a_is_integer => k_is)
    (case l_is_integer => k_is)
    (case c_is_integer => k_is)
    (case k_is_integer => k_is)
    (case a_is_number => k_is)
    (case l_is_number => k_is)
    (case d_is_number => k_is)
    (case c_is_number => k_is)
    (case k_is_number => k_is)
    (case a_are_moves => k_is)
    (case l_are_moves => k_is)
    (case c_are_moves => k_is)
    (case k_are_moves => k_is)
    (case a_are_small => k_is)
    (case l_are_small => k_is)
    (case c_are_small => k_is)
    (case k_are_small => k_is)
    (case a_Row_init => k_is)
    (case l_Row_init => k_is)
    (case c_Row_init => k_is)
    (case k_Row_init => k_is)
    (case i_Row_init => k_is)
    (case a_System_init => k_is)
    (case l_System_init => k_is)
    (case c_System_init => k_is)
    (case k_System_init => k_is)
    (case i_System_init => k_is)
    (case a_Row_len => k_is)
    (case l_Row_len => k_is)
    (case c_Row_len => k_is)
    (case k_Row_len => k_is)
    (case i_Row_len => k_is)
    (case a_law_units => k_is)
    (case l_law_units => k_is)
    (case c_law_units => k_is)
    (case k_law_units => k_is)
    (case a_law_great => k_is)
    (case l_law_great => k_is)
    (case c_law_great => k_is)
    (case k_law_great => k_is)
    (case a_units_up_to => k_is)
    (case l_units_up_to => k_is)
    (case c_units_up_to => k_is)
    (case k_units_up_to => k_is)
    (case a_digits_of => k_is)
    (case l_digits_of => k_is)
    (case c_digits_of => k_is)
    (case k_digits_of => k_is)
    (case a_sign_at => k_is)
    (case l_sign_at => k_is)
    (case c_sign_at => k_is)
    (case k_sign_at => k_is)
    (case a_Row_call => k_is)
    (case l_Row_call => k_is)
    (case c_Row_call => k_is)
    (case k_Row_call => k_is)
    (case i_Row_call => k_is)
    (case fi_Row_call => k_is)
    (case a_law_digits => k_is)
    (case l_law_digits => k_is)
    (case c_law_digits => k_is)
    (case k_law_digits => k_is)
    (case a_law_sign => k_is)
    (case l_law_sign => k_is)
    (case c_law_sign => k_is)
    (case k_law_sign => k_is)
    (case a_law_right => k_is)
    (case l_law_right => k_is)
    (case c_law_right => k_is)
    (case k_law_right => k_is)
    (case a_law_bag => k_is)
    (case l_law_bag => k_is)
    (case c_law_bag => k_is)
    (case k_law_bag => k_is)
    (case a_law => k_is)
    (case l_law => k_is)
    (case c_law => k_is)
    (case k_law => k_is)
    (case pg_System => k_is)
    (case hd_System => k_is)
    (case po_System => k_is)
    (case sa_System => k_is)
    (case mk_System => k_is)
    (case kc_System => k_is)
    (case ha_System => k_is)
    (case ci_System => k_is)
    (case cm_System => rfl)
    (case tp_System => k_is)
    (case pg_Row => k_is)
    (case hd_Row => k_is)
    (case po_Row => k_is)
    (case sa_Row => k_is)
    (case mk_Row => k_is)
    (case kc_Row => k_is)
    (case ha_Row => k_is)
    (case ci_Row => k_is)
    (case cm_Row => rfl)
    (case tp_Row => k_is)
    (case dc_System_Row => decide)
    (case oc_hn => k_is)
    (case oc_tk => k_is)
    (case ne_Row => k_is)
    (case na_Row_moves => k_is)
    (case na_Row_signs => k_is)
    (case na_Row_system => k_is)
    (case na_System_step => k_is)
    (case z_abs => k_is)
    (case z_all => k_is)
    (case z_bool => k_is)
    (case z_int => k_is)
    (case z_isinstance => k_is)
    (case z_len => k_is)
    (case z_list => k_is)
    (case z_max => k_is)
    (case z_min => k_is)
    (case z_range => k_is)
    (case z_str => k_is)
    (case z_tuple => k_is)
    (case v_MOST_NUMBER => k_is)
    (case v_MOST_STANDS => k_is)
    (case v_MOST_STEP => k_is)