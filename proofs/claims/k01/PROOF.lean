import PyProof.Rows.All
import Wide.All
import OpenK.AllK
import Wide.FinOn
import HandS.ForMost
import HandS.ForExc
import HandS.Wide
import HandS.IsInst
import HandS.TupAny
import HandS.TupMul
import HandS.Style
import HandS.Defaults
import HandS.MakeKw
import HandS.MakeKwOnly
import PySem.Challenge.RW_goldenrows_k01_digits_and_units
set_option Elab.async false
set_option linter.all false
set_option maxRecDepth 100000
set_option maxHeartbeats 0
/-! DL1: data-level readings over HandS. Values as plain data (D), slots as SV; F: the part of the heap that never changes any more. -/
namespace DL
open PySem L2

inductive D where
  | non | bl (b : Bool) | int (i : Int) | str (x : Str) | ty (n : String)
  | tup (l : List D) | lst (l : List D) | ins (C : Addr) (fs : List (Str × D)) | obj (a : Addr) | scr (ns : List Int) | bag (a : Addr)

/-- a bag of the law: a list of three numbers, from 0 on -/
def BagP (a : Addr) (h : Heap) : Prop := ∃ (p q r : Nat) (t u v : Tok) (n : Nat), h.get? a = some { cls := .type "list", data := .seq #[.int (p : Int) t, .int (q : Int) u, .int (r : Int) v] n }
def BagO (a : Addr) : HO := .ext (BagP a)

mutual
inductive Rep (K : PySem.W.Frag) (F : Hp) : V → D → Prop
  | non : Rep K F .non .non
  | bl (b : Bool) : Rep K F (.bl b) (.bl b)
  | int (i : Int) : Rep K F (.int i) (.int i)
  | str (x : Str) : Rep K F (.str x) (.str x)
  | ty (n : String) : Rep K F (.ty n) (.ty n)
  | tup {a : Addr} {xs : List V} {l : List D} : SqT K F a xs → RepA K F xs l → Rep K F (.ref a) (.tup l)
  | lst {a : Addr} {xs : List V} {l : List D} : F a = some (.lst xs) → RepA K F xs l → Rep K F (.ref a) (.lst l)
  | ins {a C dx : Addr} {xs : List (Str × V)} {fs : List (Str × D)} : F a = some (.ins C dx xs) → RepF K F xs fs → Rep K F (.ref a) (.ins C fs)
  | obj (a : Addr) : Rep K F (.ref a) (.obj a)
  | scr {a : Addr} {ns : List Int} : SqL K F a (ns.map V.int) → Rep K F (.ref a) (.scr ns)
  | bag {a : Addr} : F a = some (BagO a) → Rep K F (.ref a) (.bag a)
inductive RepA (K : PySem.W.Frag) (F : Hp) : List V → List D → Prop
  | nil : RepA K F [] []
  | cons {v : V} {vs : List V} {d : D} {ds : List D} : Rep K F v d → RepA K F vs ds → RepA K F (v :: vs) (d :: ds)
inductive RepF (K : PySem.W.Frag) (F : Hp) : List (Str × V) → List (Str × D) → Prop
  | nil : RepF K F [] []
  | cons {n : Str} {v : V} {vs : List (Str × V)} {d : D} {ds : List (Str × D)} : Rep K F v d → RepF K F vs ds → RepF K F ((n, v) :: vs) ((n, d) :: ds)
end

theorem same_rd {H H' : Hp} {a : Addr} {u : HO} (e : Same H H') (h : Rd H a u) : Rd H' a u := by
  rcases h with h | ⟨o, h⟩
  · exact .inl (e a _ h)
  · exact .inr ⟨o, e a _ h⟩
theorem same_t {K : PySem.W.Frag} {H H' : Hp} {a : Addr} {xs : List V} (e : Same H H') (h : SqT K H a xs) : SqT K H' a xs := by
  rcases h with h | h
  · exact .inl (same_rd e h)
  · exact .inr h
section
variable {K : PySem.W.Frag} {F F' : Hp}
mutual
theorem Rep.mono (e : Same F F') : ∀ {v : V} {d : D}, Rep K F v d → Rep K F' v d
  | _, _, .non => .non
  | _, _, .bl b => .bl b
  | _, _, .int i => .int i
  | _, _, .str x => .str x
  | _, _, .ty n => .ty n
  | _, _, .tup h r => .tup (same_t e h) (RepA.mono e r)
  | _, _, .lst h r => .lst (e _ _ h) (RepA.mono e r)
  | _, _, .ins h r => .ins (e _ _ h) (RepF.mono e r)
  | _, _, .obj a => .obj a
  | _, _, .scr h => .scr (e.seq h)
  | _, _, .bag h => .bag (e _ _ h)
theorem RepA.mono (e : Same F F') : ∀ {v : List V} {d : List D}, RepA K F v d → RepA K F' v d
  | _, _, .nil => .nil
  | _, _, .cons h r => .cons (Rep.mono e h) (RepA.mono e r)
theorem RepF.mono (e : Same F F') : ∀ {v : List (Str × V)} {d : List (Str × D)}, RepF K F v d → RepF K F' v d
  | _, _, .nil => .nil
  | _, _, .cons h r => .cons (Rep.mono e h) (RepF.mono e r)
end
theorem RepA.len : ∀ {v : List V} {d : List D}, RepA K F v d → v.length = d.length
  | _, _, .nil => rfl
  | _, _, .cons _ r => congrArg Nat.succ (RepA.len r)
theorem RepF.len : ∀ {v : List (Str × V)} {d : List (Str × D)}, RepF K F v d → v.length = d.length
  | _, _, .nil => rfl
  | _, _, .cons _ r => congrArg Nat.succ (RepF.len r)
theorem RepA.app : ∀ {v w : List V} {d e : List D}, RepA K F v d → RepA K F w e → RepA K F (v ++ w) (d ++ e)
  | _, _, _, _, .nil, s => s
  | _, _, _, _, .cons h r, s => .cons h (RepA.app r s)
theorem RepA.one {v : V} {d : D} (h : Rep K F v d) : RepA K F [v] [d] := .cons h .nil
theorem RepA.get : ∀ {v : List V} {d : List D} {i : Nat} {x : V}, RepA K F v d → v[i]? = some x → ∃ y, d[i]? = some y ∧ Rep K F x y
  | _, _, _, _, .nil, e => by simp at e
  | _, _, 0, _, .cons h _, e => by
    simp at e
    subst e
    exact ⟨_, rfl, h⟩
  | _, _, i + 1, x, .cons _ r, e => by
    obtain ⟨y, h1, h2⟩ := RepA.get (i := i) (x := x) r (by simpa using e)
    exact ⟨y, by simpa using h1, h2⟩
theorem RepA.getD : ∀ {v : List V} {d : List D} {i : Nat} {y : D}, RepA K F v d → d[i]? = some y → ∃ x, v[i]? = some x ∧ Rep K F x y
  | _, _, _, _, .nil, e => by simp at e
  | _, _, 0, _, .cons h _, e => by
    simp at e
    subst e
    exact ⟨_, rfl, h⟩
  | _, _, i + 1, x, .cons _ r, e => by
    obtain ⟨y, h1, h2⟩ := RepA.getD (i := i) (y := x) r (by simpa using e)
    exact ⟨y, by simpa using h1, h2⟩
theorem RepA.take : ∀ {v : List V} {d : List D} (n : Nat), RepA K F v d → RepA K F (v.take n) (d.take n)
  | _, _, 0, _ => .nil
  | _, _, _ + 1, .nil => .nil
  | _, _, n + 1, .cons h r => .cons h (RepA.take n r)
theorem RepA.drop : ∀ {v : List V} {d : List D} (n : Nat), RepA K F v d → RepA K F (v.drop n) (d.drop n)
  | _, _, 0, r => r
  | _, _, _ + 1, .nil => .nil
  | _, _, n + 1, .cons _ r => RepA.drop n r
theorem RepA.rev {v : List V} {d : List D} (h : RepA K F v d) : RepA K F v.reverse d.reverse := by
  induction v generalizing d with
  | nil =>
    cases h
    exact .nil
  | cons x v ih =>
    cases h with
    | cons h r =>
      rw [List.reverse_cons, List.reverse_cons]
      exact (ih r).app (.one h)
theorem RepA.ints : ∀ (ns : List Int), RepA K F (ns.map V.int) (ns.map D.int)
  | [] => .nil
  | n :: r => .cons (.int n) (RepA.ints r)
theorem RepA.ints_inv : ∀ {v : List V} {ns : List Int}, RepA K F v (ns.map D.int) → v = ns.map V.int
  | _, [], .nil => rfl
  | _, n :: r, .cons h t => by
    cases h
    rw [RepA.ints_inv t]
    rfl
theorem RepF.lookup {f : Str} : ∀ {v : List (Str × V)} {d : List (Str × D)} {y : D}, RepF K F v d → d.lookup f = some y → ∃ x, v.lookup f = some x ∧ Rep K F x y
  | _, _, _, .nil, e => by simp at e
  | (n, v) :: vs, (_, d) :: ds, y, .cons h r, e => by
    rw [List.lookup_cons] at e ⊢
    cases hb : f == n with
    | true =>
      rw [hb] at e
      cases e
      exact ⟨v, rfl, h⟩
    | false =>
      rw [hb] at e
      exact RepF.lookup r e
theorem RepF.none {f : Str} : ∀ {v : List (Str × V)} {d : List (Str × D)}, RepF K F v d → d.lookup f = none → v.lookup f = none
  | _, _, .nil, _ => rfl
  | (n, v) :: vs, (_, d) :: ds, .cons h r, e => by
    rw [List.lookup_cons] at e ⊢
    cases hb : f == n with
    | true =>
      rw [hb] at e
      cases e
    | false =>
      rw [hb] at e
      exact RepF.none r e
end

/-! ### steps of the heap: F the frozen part, H the whole -/
structure Stp (F F' H H' : Hp) : Prop where
  ff : Same F F'
  hh : Same H H'
  fh : Same F' H'
  nw : ∀ a, F a = none → H a ≠ none → F' a = none
theorem Stp.refl {F H : Hp} (e : Same F H) : Stp F F H H := ⟨Same.refl F, Same.refl H, e, fun _ h _ => h⟩
theorem Stp.trans {F F1 F2 H H1 H2 : Hp} (a : Stp F F1 H H1) (b : Stp F1 F2 H1 H2) : Stp F F2 H H2 :=
  ⟨a.ff.trans b.ff, a.hh.trans b.hh, b.fh, fun x hf hh => b.nw x (a.nw x hf hh) (by
    cases h : H x with
    | none => exact absurd h hh
    | some o =>
      rw [a.hh x o h]
      exact fun z => nomatch z)⟩
theorem same_new {H : Hp} {p : Addr} {o : HO} (h : H p = none) : Same H (upd H p o) := fun a u e => by
  rw [upd_ne (ne_of_none e h)]
  exact e
/-- a new object, frozen at once -/
theorem Stp.new {F H : Hp} {p : Addr} {o : HO} (e : Same F H) (h : H p = none) : Stp F (upd F p o) H (upd H p o) := by
  have hf : F p = none := e.free h
  refine ⟨same_new hf, same_new h, fun a u q => ?_, fun a h1 h2 => ?_⟩
  · by_cases z : a = p
    · subst z
      rw [upd_same] at q ⊢
      exact q
    · rw [upd_ne z] at q ⊢
      exact e a u q
  · have z : a ≠ p := fun z => by
      rw [z] at h2
      exact h2 h
    rw [upd_ne z]
    exact h1
/-- a new object, not frozen -/
theorem Stp.fresh {F H : Hp} {p : Addr} {o : HO} (e : Same F H) (h : H p = none) : Stp F F H (upd H p o) :=
  ⟨Same.refl F, same_new h, e.trans (same_new h), fun _ h1 _ => h1⟩
/-- one's own new object is frozen -/
theorem Stp.freeze {F F' H H' : Hp} {p : Addr} {o : HO} (s : Stp F F' H H') (h : H p = none) (hf : F' p = none) (hp : H' p = some o) : Stp F (upd F' p o) H H' := by
  refine ⟨s.ff.trans (same_new hf), s.hh, fun a u q => ?_, fun a h1 h2 => ?_⟩
  · by_cases z : a = p
    · subst z
      rw [upd_same] at q
      rw [hp]
      exact q
    · rw [upd_ne z] at q
      exact s.fh a u q
  · have z : a ≠ p := fun z => by
      rw [z] at h2
      exact h2 h
    rw [upd_ne z]
    exact s.nw a h1 h2
/-- one's own object changes -/
theorem Stp.mut {F F' H H' : Hp} {p : Addr} {o : HO} (s : Stp F F' H H') (h : H p = none) (hf : F' p = none) : Stp F F' H (upd H' p o) :=
  ⟨s.ff, fun a u e => by
    rw [upd_ne (ne_of_none e h)]
    exact s.hh a u e, fun a u e => by
    rw [upd_ne (ne_of_none e hf)]
    exact s.fh a u e, s.nw⟩

/-! ### slots, states -/
inductive SV where
  | un | d (v : D) | own (l : List D) | me (a C : Addr) (fs : List (Str × D))
abbrev EV := List SV
structure Ent where
  F : Hp
  H : Hp
def SlotOk (K : PySem.W.Frag) (B : Ent) (F H : Hp) (x : Option (Option V)) : SV → Prop
  | .un => True
  | .d v => ∃ y, x = some (some y) ∧ Rep K F y v
  | .own l => ∃ (a : Addr) (xs : List V), x = some (some (.ref a)) ∧ H a = some (.lst xs) ∧ RepA K F xs l ∧ F a = none ∧ B.H a = none
  | .me a C fs => ∃ (dx : Addr) (xs : List (Str × V)), x = some (some (.ref a)) ∧ H a = some (.ins C dx xs) ∧ RepF K F xs fs ∧ F a = none ∧ B.H a = none
def Mine : SV → Prop
  | .own _ => True
  | .me _ _ _ => True
  | _ => False
structure At (K : PySem.W.Frag) (B : Ent) (env : EV) (F : Hp) (σ : St) (H : Hp) : Prop where
  len : σ.length = env.length
  st : Stp B.F F B.H H
  sl : ∀ (i : Nat) (sv : SV), env[i]? = some sv → SlotOk K B F H (σ[i]?) sv
  inj : ∀ (i j : Nat) (s t : SV) (a : Addr), env[i]? = some s → env[j]? = some t → Mine s → Mine t → σ[i]? = some (some (.ref a)) → σ[j]? = some (some (.ref a)) → i = j
section
variable {K : PySem.W.Frag} {B : Ent} {env : EV} {F F' H H' : Hp} {σ : St}
theorem At.fh (a : At K B env F σ H) : Same F H := a.st.fh
theorem SlotOk.step {x : Option (Option V)} {sv : SV} (s : Stp F F' H H') (h : SlotOk K B F H x sv) : SlotOk K B F' H' x sv := by
  cases sv with
  | un => trivial
  | d v =>
    obtain ⟨y, e, r⟩ := h
    exact ⟨y, e, r.mono s.ff⟩
  | own l =>
    obtain ⟨a, xs, e, h1, r, h2, h3⟩ := h
    exact ⟨a, xs, e, s.hh a _ h1, r.mono s.ff, s.nw a h2 (by rw [h1]; exact fun z => nomatch z), h3⟩
  | me a C fs =>
    obtain ⟨dx, xs, e, h1, r, h2, h3⟩ := h
    exact ⟨dx, xs, e, s.hh a _ h1, r.mono s.ff, s.nw a h2 (by rw [h1]; exact fun z => nomatch z), h3⟩
theorem At.step (a : At K B env F σ H) (s : Stp F F' H H') : At K B env F' σ H' :=
  ⟨a.len, a.st.trans s, fun i sv e => (a.sl i sv e).step s, a.inj⟩
theorem At.var (a : At K B env F σ H) {i : Nat} {d : D} (e : env[i]? = some (.d d)) : ∃ x, σ[i]? = some (some x) ∧ Rep K F x d := a.sl i _ e
theorem get_set {α : Type} {l : List α} {i j : Nat} {x y : α} (h : (l.set i x)[j]? = some y) : (j = i ∧ y = x) ∨ (j ≠ i ∧ l[j]? = some y) := by
  by_cases e : j = i
  · subst e
    rw [List.getElem?_set_self'] at h
    cases hl : l[j]? with
    | none =>
      rw [hl] at h
      cases h
    | some z =>
      rw [hl] at h
      exact .inl ⟨rfl, (Option.some.inj h).symm⟩
  · rw [List.getElem?_set_ne (fun z => e z.symm)] at h
    exact .inr ⟨e, h⟩
theorem set_get {α : Type} {l : List α} {i : Nat} {x : α} (h : i < l.length) : (l.set i x)[i]? = some x := by
  rw [List.getElem?_set_self h]
theorem lt_of_get {α : Type} {l : List α} {i : Nat} {x : α} (h : l[i]? = some x) : i < l.length := (List.getElem?_eq_some_iff.mp h).1
/-- a slot gets a value -/
theorem At.set (a : At K B env F σ H) {i : Nat} {x : V} {d : D} (r : Rep K F x d) : At K B (env.set i (.d d)) F (σ.set i (some x)) H := by
  refine ⟨by rw [List.length_set, List.length_set]; exact a.len, a.st, fun j sv e => ?_, fun j k s t b e1 e2 m1 m2 q1 q2 => ?_⟩
  · rcases get_set e with ⟨rfl, rfl⟩ | ⟨hj, e⟩
    · refine ⟨x, ?_, r⟩
      have h := lt_of_get e
      rw [List.length_set, ← a.len] at h
      exact set_get h
    · rw [List.getElem?_set_ne (fun z => hj z.symm)]
      exact a.sl j sv e
  · rcases get_set e1 with ⟨_, rfl⟩ | ⟨hj, e1⟩
    · exact m1.elim
    rcases get_set e2 with ⟨_, rfl⟩ | ⟨hk, e2⟩
    · exact m2.elim
    rw [List.getElem?_set_ne (fun z => hj z.symm)] at q1
    rw [List.getElem?_set_ne (fun z => hk z.symm)] at q2
    exact a.inj j k s t b e1 e2 m1 m2 q1 q2
theorem At.unset (a : At K B env F σ H) {i : Nat} (x : Option V) : At K B (env.set i .un) F (σ.set i x) H := by
  refine ⟨by rw [List.length_set, List.length_set]; exact a.len, a.st, fun j sv e => ?_, fun j k s t b e1 e2 m1 m2 q1 q2 => ?_⟩
  · rcases get_set e with ⟨rfl, rfl⟩ | ⟨hj, e⟩
    · trivial
    · rw [List.getElem?_set_ne (fun z => hj z.symm)]
      exact a.sl j sv e
  · rcases get_set e1 with ⟨_, rfl⟩ | ⟨hj, e1⟩
    · exact m1.elim
    rcases get_set e2 with ⟨_, rfl⟩ | ⟨hk, e2⟩
    · exact m2.elim
    rw [List.getElem?_set_ne (fun z => hj z.symm)] at q1
    rw [List.getElem?_set_ne (fun z => hk z.symm)] at q2
    exact a.inj j k s t b e1 e2 m1 m2 q1 q2
/-- a slot gets one's own new object -/
theorem At.setMine (a : At K B env F σ H) {i : Nat} {p : Addr} {sv : SV} (m : Mine sv) (r : SlotOk K B F H (some (some (.ref p))) sv)
    (hn : ∀ (j : Nat) (t : SV), j ≠ i → env[j]? = some t → Mine t → σ[j]? ≠ some (some (.ref p))) : At K B (env.set i sv) F (σ.set i (some (.ref p))) H := by
  refine ⟨by rw [List.length_set, List.length_set]; exact a.len, a.st, fun j sv' e => ?_, fun j k s t b e1 e2 m1 m2 q1 q2 => ?_⟩
  · rcases get_set e with ⟨rfl, rfl⟩ | ⟨hj, e⟩
    · have h := lt_of_get e
      rw [List.length_set, ← a.len] at h
      rw [set_get h]
      exact r
    · rw [List.getElem?_set_ne (fun z => hj z.symm)]
      exact a.sl j sv' e
  · rcases get_set e1 with ⟨rfl, rfl⟩ | ⟨hj, e1⟩
    · rcases get_set e2 with ⟨rfl, rfl⟩ | ⟨hk, e2⟩
      · rfl
      · rcases get_set q1 with ⟨_, z⟩ | ⟨z, _⟩
        · cases z
          rw [List.getElem?_set_ne (fun z => hk z.symm)] at q2
          exact absurd q2 (hn k t hk e2 m2)
        · exact absurd rfl z
    · have e1' := e1
      rcases get_set e2 with ⟨rfl, rfl⟩ | ⟨hk, e2⟩
      · rcases get_set q2 with ⟨_, z⟩ | ⟨z, _⟩
        · cases z
          rw [List.getElem?_set_ne (fun z => hj z.symm)] at q1
          exact absurd q1 (hn j s hj e1' m1)
        · exact absurd rfl z
      · rw [List.getElem?_set_ne (fun z => hj z.symm)] at q1
        rw [List.getElem?_set_ne (fun z => hk z.symm)] at q2
        exact a.inj j k s t b e1 e2 m1 m2 q1 q2
theorem SlotOk.there {x : Option (Option V)} {sv : SV} {p : Addr} (h : SlotOk K B F H x sv) (m : Mine sv) (e : x = some (some (.ref p))) : H p ≠ none := by
  cases sv with
  | un => exact m.elim
  | d v => exact m.elim
  | own l =>
    obtain ⟨a, xs, e', h1, _⟩ := h
    rw [e] at e'
    cases e'
    rw [h1]
    exact fun z => nomatch z
  | me a C fs =>
    obtain ⟨dx, xs, e', h1, _⟩ := h
    rw [e] at e'
    cases e'
    rw [h1]
    exact fun z => nomatch z
/-- .. that H0 did not know, ahead of a step -/
theorem At.setNew {F0 H0 : Hp} (a0 : At K B env F0 σ H0) (s : Stp F0 F H0 H) {i : Nat} {p : Addr} {xs : List V} {l : List D} (hp : H0 p = none) (h1 : H p = some (.lst xs)) (hf : F p = none) (r : RepA K F xs l) :
    At K B (env.set i (.own l)) F (σ.set i (some (.ref p))) H := by
  refine (a0.step s).setMine (sv := .own l) trivial ⟨p, xs, rfl, h1, r, hf, a0.st.hh.free hp⟩ fun j t _ e m z => ?_
  exact (a0.sl j t e).there m z hp
/-- one's own list changes -/
theorem At.changeG (a : At K B env F σ H) {i : Nat} {p : Addr} {o : HO} {sv sw : SV} (e : env[i]? = some sv) (m : Mine sv) (es : σ[i]? = some (some (.ref p))) (hf : F p = none) (hb : B.H p = none) (ok : SlotOk K B F (upd H p o) (some (some (.ref p))) sw) :
    At K B (env.set i sw) F σ (upd H p o) := by
  have hi : i < σ.length := lt_of_get es
  have eσ : σ.set i (some (.ref p)) = σ := by
    apply List.ext_getElem?
    intro j
    by_cases hj : i = j
    · subst hj
      rw [set_get hi, es]
    · rw [List.getElem?_set_ne hj]
  have hne : ∀ (j : Nat) (t : SV), j ≠ i → env[j]? = some t → Mine t → σ[j]? ≠ some (some (.ref p)) := fun j t hj et mt z => hj (a.inj j i t sv p et e mt m z es)
  have st' : Stp B.F F B.H (upd H p o) := a.st.mut hb hf
  refine ⟨by rw [List.length_set]; exact a.len, st', fun j sv' e' => ?_, fun j k s t b e1 e2 m1 m2 q1 q2 => ?_⟩
  · rcases get_set e' with ⟨rfl, rfl⟩ | ⟨hj, e'⟩
    · rw [es]
      exact ok
    · have h := a.sl j sv' e'
      cases sv' with
      | un => trivial
      | d v => exact h
      | own l' =>
        obtain ⟨b, ys, z, h1, h2, h3, h4⟩ := h
        refine ⟨b, ys, z, ?_, h2, h3, h4⟩
        rw [upd_ne (fun w => hne j _ hj e' trivial (by rw [z, w]))]
        exact h1
      | me b C fs =>
        obtain ⟨dx, ys, z, h1, h2, h3, h4⟩ := h
        refine ⟨dx, ys, z, ?_, h2, h3, h4⟩
        rw [upd_ne (fun w => hne j _ hj e' trivial (by rw [z, w]))]
        exact h1
  · have m1' : ∃ s', env[j]? = some s' ∧ Mine s' := by
      rcases get_set e1 with ⟨rfl, _⟩ | ⟨_, e1⟩
      · exact ⟨sv, e, m⟩
      · exact ⟨s, e1, m1⟩
    have m2' : ∃ s', env[k]? = some s' ∧ Mine s' := by
      rcases get_set e2 with ⟨rfl, _⟩ | ⟨_, e2⟩
      · exact ⟨sv, e, m⟩
      · exact ⟨t, e2, m2⟩
    obtain ⟨s', f1, n1⟩ := m1'
    obtain ⟨t', f2, n2⟩ := m2'
    exact a.inj j k s' t' b f1 f2 n1 n2 q1 q2
theorem At.change (a : At K B env F σ H) {i : Nat} {p : Addr} {xs : List V} {l : List D} {sv : SV} (e : env[i]? = some sv) (m : Mine sv) (es : σ[i]? = some (some (.ref p))) (hf : F p = none) (hb : B.H p = none) (r : RepA K F xs l) :
    At K B (env.set i (.own l)) F σ (upd H p (.lst xs)) := a.changeG e m es hf hb ⟨p, xs, rfl, upd_same, r, hf, hb⟩
/-- one's own list is frozen -/
theorem At.freeze (a : At K B env F σ H) {i : Nat} {p : Addr} {xs : List V} {l : List D} (e : env[i]? = some (.own l)) (es : σ[i]? = some (some (.ref p))) (h1 : H p = some (.lst xs)) (hf : F p = none) (hb : B.H p = none) (r : RepA K F xs l) :
    At K B (env.set i (.d (.lst l))) (upd F p (.lst xs)) σ H := by
  have hi : i < σ.length := lt_of_get es
  have sF : Same F (upd F p (.lst xs)) := same_new hf
  have hne : ∀ (j : Nat) (t : SV), j ≠ i → env[j]? = some t → Mine t → σ[j]? ≠ some (some (.ref p)) := fun j t hj et mt z => hj (a.inj j i t _ p et e mt trivial z es)
  refine ⟨by rw [List.length_set]; exact a.len, a.st.freeze hb hf h1, fun j sv' e' => ?_, fun j k s t b e1 e2 m1 m2 q1 q2 => ?_⟩
  · rcases get_set e' with ⟨rfl, rfl⟩ | ⟨hj, e'⟩
    · exact ⟨.ref p, es, .lst upd_same (r.mono sF)⟩
    · have h := a.sl j sv' e'
      cases sv' with
      | un => trivial
      | d v =>
        obtain ⟨y, z, q⟩ := h
        exact ⟨y, z, q.mono sF⟩
      | own l' =>
        obtain ⟨b, ys, z, g1, g2, g3, g4⟩ := h
        refine ⟨b, ys, z, g1, g2.mono sF, ?_, g4⟩
        rw [upd_ne (fun w => hne j _ hj e' trivial (by rw [z, w]))]
        exact g3
      | me b C fs =>
        obtain ⟨dx, ys, z, g1, g2, g3, g4⟩ := h
        refine ⟨dx, ys, z, g1, g2.mono sF, ?_, g4⟩
        rw [upd_ne (fun w => hne j _ hj e' trivial (by rw [z, w]))]
        exact g3
  · rcases get_set e1 with ⟨_, rfl⟩ | ⟨hj, e1⟩
    · exact m1.elim
    rcases get_set e2 with ⟨_, rfl⟩ | ⟨hk, e2⟩
    · exact m2.elim
    exact a.inj j k s t b e1 e2 m1 m2 q1 q2
end
end DL
/-! DL2: what a reading asks, over data: expressions, arguments, tests, statements, loops, calls. -/
namespace DL
open PySem L2

/-- an error: its class, its fields -/
structure Er where
  C : Addr
  fs : List (Str × D)
abbrev ER := Er → Prop
abbrev WE := EV → ER → (D → Prop) → Prop
abbrev WT := EV → ER → (Bool → Prop) → Prop
abbrev WA := EV → ER → (List D → Prop) → Prop
abbrev WO := EV → ER → (List D → Prop) → Prop
structure DN where
  nx : EV → Prop
  rt : D → Prop
  bk : EV → Prop := fun _ => False
  ct : EV → Prop := fun _ => False
  er : ER := fun _ => False
abbrev WS := DN → EV → Prop
/-- a def's meaning -/
abbrev FS := List D → ER → (D → Prop) → Prop

def ErrRep (K : PySem.W.Frag) (F : Hp) (d : Option Addr) (fs : List (Str × D)) : Prop := match d with
  | none => fs = []
  | some d => ∃ xs, F d = some (.xd xs) ∧ RepF K F xs fs
def EL (K : PySem.W.Frag) (B : Ent) (E : XK) (er : ER) : Prop := ∀ (C : Addr) (d : Option Addr) (fs : List (Str × D)) (F' H' : Hp), Stp B.F F' B.H H' → ErrRep K F' d fs → er ⟨C, fs⟩ → E (.ref C) d H'
def VL (K : PySem.W.Frag) (F H : Hp) (Q : VK) (q : D → Prop) : Prop := ∀ (x : V) (d : D) (F' H' : Hp), Stp F F' H H' → Rep K F' x d → q d → Q x H'
section
variable (K : PySem.W.Frag) (E : XK)
def SimE (te : TE) (w : WE) : Prop := ∀ (B : Ent) (env : EV) (F : Hp) (σ : St) (H : Hp) (Q : VK) (er : ER) (q : D → Prop), At K B env F σ H → EL K B E er → w env er q → VL K F H Q q → te σ H Q
def SimT (tt : TT) (w : WT) : Prop := ∀ (B : Ent) (env : EV) (F : Hp) (σ : St) (H : Hp) (Q : Bool → Hp → Prop) (er : ER) (q : Bool → Prop), At K B env F σ H → EL K B E er → w env er q →
  (∀ (b : Bool) (F' H' : Hp), Stp F F' H H' → q b → Q b H') → tt σ H Q
def SimA (ta : TA) (w : WA) : Prop := ∀ (B : Ent) (env : EV) (F : Hp) (σ : St) (H : Hp) (Q : List V → Hp → Prop) (er : ER) (q : List D → Prop), At K B env F σ H → EL K B E er → w env er q →
  (∀ (xs : List V) (ds : List D) (F' H' : Hp), Stp F F' H H' → RepA K F' xs ds → q ds → Q xs H') → ta σ H Q
/-- a new list that nobody else holds -/
def SimO (te : TE) (w : WO) : Prop := ∀ (B : Ent) (env : EV) (F : Hp) (σ : St) (H : Hp) (Q : VK) (er : ER) (q : List D → Prop), At K B env F σ H → EL K B E er → w env er q →
  (∀ (a : Addr) (xs : List V) (l : List D) (F' H' : Hp), Stp F F' H H' → H a = none → H' a = some (.lst xs) → F' a = none → RepA K F' xs l → q l → Q (.ref a) H') → te σ H Q
/-- a list that is looked at: its items -/
def SimL (te : TE) (w : WO) : Prop := ∀ (B : Ent) (env : EV) (F : Hp) (σ : St) (H : Hp) (Q : VK) (er : ER) (q : List D → Prop), At K B env F σ H → EL K B E er → w env er q →
  (∀ (a : Addr) (xs : List V) (l : List D) (F' H' : Hp), Stp F F' H H' → SqL K H' a xs → RepA K F' xs l → q l → Q (.ref a) H') → te σ H Q
structure Link (B : Ent) (Dd : Ends) (n : DN) : Prop where
  nx : ∀ (env : EV) (F : Hp) (σ : St) (H : Hp), At K B env F σ H → n.nx env → Dd.nx σ H
  rt : ∀ (x : V) (d : D) (F H : Hp), Stp B.F F B.H H → Rep K F x d → n.rt d → Dd.rt x H
  bk : ∀ (env : EV) (F : Hp) (σ : St) (H : Hp), At K B env F σ H → n.bk env → Dd.bk σ H
  ct : ∀ (env : EV) (F : Hp) (σ : St) (H : Hp), At K B env F σ H → n.ct env → Dd.ct σ H
  er : EL K B E n.er
def SimS (ts : TS) (w : WS) : Prop := ∀ (B : Ent) (Dd : Ends) (n : DN), Link K E B Dd n → ∀ (env : EV) (F : Hp) (σ : St) (H : Hp), At K B env F σ H → w n env → ts Dd σ H
end
/-- a two-place, a one-place operation, a call, on values -/
def Sim2 (K : PySem.W.Frag) (r : R2) (f : D → D → (D → Prop) → Prop) : Prop := ∀ (F H : Hp) (x y : V) (d e : D) (Q : VK) (q : D → Prop), Same F H → Rep K F x d → Rep K F y e → f d e q → VL K F H Q q → r x y H Q
def Sim1 (K : PySem.W.Frag) (r : V → Hp → VK → Prop) (f : D → (D → Prop) → Prop) : Prop := ∀ (F H : Hp) (x : V) (d : D) (Q : VK) (q : D → Prop), Same F H → Rep K F x d → f d q → VL K F H Q q → r x H Q
def SimC (K : PySem.W.Frag) (r : List V → Hp → VK → Prop) (f : List D → (D → Prop) → Prop) : Prop := ∀ (F H : Hp) (xs : List V) (ds : List D) (Q : VK) (q : D → Prop), Same F H → RepA K F xs ds → f ds q → VL K F H Q q → r xs H Q
section
variable {K : PySem.W.Frag} {E : XK} {ta tb tc te : TE} {wa wb wc we : WE} {tt tu : TT} {wt wu : WT} {ts ts' : TS} {ws ws' : WS} {i j : Nat} {d : D} {v : V} {r : R2} {f2 : D → D → (D → Prop) → Prop}
theorem VL.here {F H : Hp} {Q : VK} {q : D → Prop} {x : V} {d : D} (h : VL K F H Q q) (e : Same F H) (r : Rep K F x d) (z : q d) : Q x H := h x d F H (Stp.refl e) r z
theorem VL.step {F F' H H' : Hp} {Q : VK} {q : D → Prop} (h : VL K F H Q q) (s : Stp F F' H H') : VL K F' H' Q q := fun x d F2 H2 s2 => h x d F2 H2 (s.trans s2)

/-! ### expressions -/
def wVar (i : Nat) : WE := fun env _ q => match env[i]? with
  | some (.d d) => q d
  | _ => False
theorem sim_var : SimE K E (tVar i) (wVar i) := fun B env F σ H Q er q a _ w k => by
  unfold wVar at w
  split at w
  · rename_i d e
    obtain ⟨x, ex, r⟩ := a.var e
    exact ⟨x, ex, k.here a.fh r w⟩
  · exact w.elim
def wC (d : D) : WE := fun _ _ q => q d
theorem sim_int {i : Int} : SimE K E (tC (.int i)) (wC (.int i)) := fun B env F σ H Q er q a _ w k => k.here a.fh (.int i) w
theorem sim_bl {b : Bool} : SimE K E (tC (.bl b)) (wC (.bl b)) := fun B env F σ H Q er q a _ w k => k.here a.fh (.bl b) w
theorem sim_non : SimE K E (tC .non) (wC .non) := fun B env F σ H Q er q a _ w k => k.here a.fh .non w
theorem sim_str {x : Str} : SimE K E (tC (.str x)) (wC (.str x)) := fun B env F σ H Q er q a _ w k => k.here a.fh (.str x) w
theorem sim_ty {n : String} : SimE K E (tC (.ty n)) (wC (.ty n)) := fun B env F σ H Q er q a _ w k => k.here a.fh (.ty n) w
theorem sim_obj {p : Addr} : SimE K E (tC (.ref p)) (wC (.obj p)) := fun B env F σ H Q er q a _ w k => k.here a.fh (.obj p) w
/-- the term is another one's -/
theorem sim_is {w : WE} (h : SimE K E te w) {w' : WE} (e : ∀ env er q, w' env er q → w env er q) : SimE K E te w' := fun B env F σ H Q er q a l z k => h B env F σ H Q er q a l (e env er q z) k

def w2 (f : D → D → (D → Prop) → Prop) (wa wb : WE) : WE := fun env er q => wa env er fun x => wb env er fun y => f x y q
theorem sim_op (hr : Sim2 K r f2) (ha : SimE K E ta wa) (hb : SimE K E tb wb) : SimE K E (tOp r ta tb) (w2 f2 wa wb) := fun B env F σ H Q er q a l w k =>
  ha B env F σ H _ er _ a l w fun x d F1 H1 s1 r1 w1 =>
    hb B env F1 σ H1 _ er _ (a.step s1) l w1 fun y e F2 H2 s2 r2 w2 =>
      hr F2 H2 x y d e Q q s2.fh (r1.mono s2.ff) r2 w2 (k.step (s1.trans s2))
def w1 (f : D → (D → Prop) → Prop) (wa : WE) : WE := fun env er q => wa env er fun x => f x q
theorem sim_un {r : V → Hp → VK → Prop} {f : D → (D → Prop) → Prop} (hr : Sim1 K r f) (ha : SimE K E ta wa) : SimE K E (tUn r ta) (w1 f wa) := fun B env F σ H Q er q a l w k =>
  ha B env F σ H _ er _ a l w fun x d F1 H1 s1 r1 w1 => hr F1 H1 x d Q q s1.fh r1 w1 (k.step s1)
def wNil : WA := fun _ _ q => q []
def wCons (wa : WE) (wr : WA) : WA := fun env er q => wa env er fun x => wr env er fun r => q (x :: r)
theorem sim_nil : SimA K E tNil wNil := fun B env F σ H Q er q a _ w k => k [] [] F H (Stp.refl a.fh) .nil w
theorem sim_cons {tr : TA} {wr : WA} (ha : SimE K E ta wa) (hr : SimA K E tr wr) : SimA K E (tCons ta tr) (wCons wa wr) := fun B env F σ H Q er q a l w k =>
  ha B env F σ H _ er _ a l w fun x d F1 H1 s1 r1 w1 =>
    hr B env F1 σ H1 _ er _ (a.step s1) l w1 fun xs ds F2 H2 s2 r2 w2 => k _ _ F2 H2 (s1.trans s2) (.cons (r1.mono s2.ff) r2) w2
def wTup (wa : WA) : WE := fun env er q => wa env er fun l => l.length ≤ sizeLine ∧ q (.tup l)
theorem sim_tup {t : TA} {w : WA} (h : SimA K E t w) : SimE K E (tTup t) (wTup w) := fun B env F σ H Q er q a l w k =>
  h B env F σ H _ er _ a l w fun xs ds F1 H1 s1 r1 w1 => ⟨by rw [r1.len]; exact w1.1, fun p hp =>
    k _ _ _ _ (s1.trans (Stp.new s1.fh hp)) (.tup (.inl (.inl upd_same)) (r1.mono (same_new (s1.fh.free hp)))) w1.2⟩
def wLstO (wa : WA) : WO := fun env er q => wa env er fun l => l.length ≤ sizeLine ∧ q l
theorem sim_lstO {t : TA} {w : WA} (h : SimA K E t w) : SimO K E (tLst t) (wLstO w) := fun B env F σ H Q er q a l w k =>
  h B env F σ H _ er _ a l w fun xs ds F1 H1 s1 r1 w1 => ⟨by rw [r1.len]; exact w1.1, fun p hp =>
    k p xs ds F1 _ (s1.trans (Stp.fresh s1.fh hp)) (s1.hh.free hp) upd_same (s1.fh.free hp) r1 w1.2⟩
/-- a new list, frozen -/
def wFz (wo : WO) : WE := fun env er q => wo env er fun l => q (.lst l)
theorem sim_fz {w : WO} (h : SimO K E te w) : SimE K E te (wFz w) := fun B env F σ H Q er q a l w k =>
  h B env F σ H _ er _ a l w fun p xs ds F1 H1 s1 hp h1 hf r1 w1 => k _ _ _ _ (s1.freeze hp hf h1) (.lst upd_same (r1.mono (same_new hf))) w1
/-- a new list, looked at -/
theorem siml_O {w : WO} (h : SimO K E te w) : SimL K E te w := fun B env F σ H Q er q a l w k =>
  h B env F σ H _ er _ a l w fun p xs ds F1 H1 s1 hp h1 hf r1 w1 => k p xs ds F1 H1 s1 (SqL.of h1) r1 w1
def wLk (we : WE) : WO := fun env er q => we env er fun d => match d with
  | .lst l => q l
  | .scr ns => q (ns.map .int)
  | _ => False
theorem siml_E (h : SimE K E te we) : SimL K E te (wLk we) := fun B env F σ H Q er q a l w k =>
  h B env F σ H _ er _ a l w fun x d F1 H1 s1 r1 w1 => by
    cases r1 with
    | lst h1 h2 => exact k _ _ _ F1 H1 s1 (SqL.of (s1.fh _ _ h1)) h2 w1
    | scr h1 => exact k _ _ _ F1 H1 s1 (s1.fh.seq h1) (RepA.ints _) w1
    | _ => exact w1.elim
def wOwn (i : Nat) : WO := fun env _ q => match env[i]? with
  | some (.own l) => q l
  | _ => False
theorem siml_own : SimL K E (tVar i) (wOwn i) := fun B env F σ H Q er q a _ w k => by
  unfold wOwn at w
  split at w
  · rename_i l e
    obtain ⟨p, xs, ex, h1, r, h2, h3⟩ := a.sl i _ e
    exact ⟨.ref p, ex, k p xs l F H (Stp.refl a.fh) (SqL.of h1) r w⟩
  · exact w.elim
def wAnd (wa wb : WE) : WE := fun env er q => wa env er fun x => match x with
  | .bl true => wb env er q
  | .bl false => q (.bl false)
  | _ => False
theorem sim_andV (ha : SimE K E ta wa) (hb : SimE K E tb wb) : SimE K E (tAndV ta tb) (wAnd wa wb) := fun B env F σ H Q er q a l w k =>
  ha B env F σ H _ er _ a l w fun x d F1 H1 s1 r1 w1 => by
    cases r1 with
    | bl b =>
      refine ⟨b, rfl, ?_⟩
      cases b with
      | true => exact hb B env F1 σ H1 Q er q (a.step s1) l w1 (k.step s1)
      | false => exact k _ _ F1 H1 s1 (.bl false) w1
    | _ => exact w1.elim
def wOr (wa wb : WE) : WE := fun env er q => wa env er fun x => match x with
  | .bl true => q (.bl true)
  | .bl false => wb env er q
  | _ => False
theorem sim_orV (ha : SimE K E ta wa) (hb : SimE K E tb wb) : SimE K E (tOrV ta tb) (wOr wa wb) := fun B env F σ H Q er q a l w k =>
  ha B env F σ H _ er _ a l w fun x d F1 H1 s1 r1 w1 => by
    cases r1 with
    | bl b =>
      refine ⟨b, rfl, ?_⟩
      cases b with
      | true => exact k _ _ F1 H1 s1 (.bl true) w1
      | false => exact hb B env F1 σ H1 Q er q (a.step s1) l w1 (k.step s1)
    | _ => exact w1.elim
def wNot (wa : WE) : WE := fun env er q => wa env er fun x => match x with
  | .bl b => q (.bl (!b))
  | _ => False
theorem sim_notV (ha : SimE K E ta wa) : SimE K E (tNotV ta) (wNot wa) := fun B env F σ H Q er q a l w k =>
  ha B env F σ H _ er _ a l w fun x d F1 H1 s1 r1 w1 => by
    cases r1 with
    | bl b => exact ⟨b, rfl, k _ _ F1 H1 s1 (.bl (!b)) w1⟩
    | _ => exact w1.elim
/-- a truth as a test -/
def wB (wa : WE) : WT := fun env er q => wa env er fun x => match x with
  | .bl b => q b
  | _ => False
theorem simt_B (ha : SimE K E ta wa) : SimT K E (tB ta) (wB wa) := fun B env F σ H Q er q a l w k =>
  ha B env F σ H _ er _ a l w fun x d F1 H1 s1 r1 w1 => by
    cases r1 with
    | bl b => exact ⟨b, rfl, k b F1 H1 s1 w1⟩
    | _ => exact w1.elim
theorem simt_test (ha : SimE K E ta wa) : SimT K E (tTest ta) (wB wa) := fun B env F σ H Q er q a l w k =>
  ha B env F σ H _ er _ a l w fun x d F1 H1 s1 r1 w1 => by
    cases r1 with
    | bl b => exact ⟨b, rfl, k b F1 H1 s1 w1⟩
    | _ => exact w1.elim
def wYes : WT := fun _ _ q => q true
theorem simt_yes : SimT K E tYes wYes := fun B env F σ H Q er q a l w k => k true F H (Stp.refl a.fh) w
def wIf (wt : WT) (wa wb : WE) : WE := fun env er q => wt env er fun b => (b = true → wa env er q) ∧ (b = false → wb env er q)
theorem sim_if (ht : SimT K E tt wt) (ha : SimE K E ta wa) (hb : SimE K E tb wb) : SimE K E (tIf tt ta tb) (wIf wt wa wb) := fun B env F σ H Q er q a l w k =>
  ht B env F σ H _ er _ a l w fun b F1 H1 s1 w1 => by
    cases b with
    | true => exact ha B env F1 σ H1 Q er q (a.step s1) l (w1.1 rfl) (k.step s1)
    | false => exact hb B env F1 σ H1 Q er q (a.step s1) l (w1.2 rfl) (k.step s1)
/-- o.f -/
def wFld (f : Str) (wa : WE) : WE := fun env er q => wa env er fun x => match x with
  | .ins C fs => match fs.lookup f with
    | some d => q d
    | none => False
  | _ => False
theorem sim_fld {f : Str} (cl : ∀ C, Cls K C) (na : ∀ C, NoAttr K C f) (ha : SimE K E ta wa) : SimE K E (tFld K ta f) (wFld f wa) := fun B env F σ H Q er q a l w k =>
  ha B env F σ H _ er _ a l w fun x d F1 H1 s1 r1 w1 => by
    cases r1 with
    | @ins p C dx xs fs h1 h2 =>
      have w2 : (match fs.lookup f with | some d => q d | none => False) := w1
      cases e : fs.lookup f with
      | none =>
        rw [e] at w2
        exact w2.elim
      | some y =>
        rw [e] at w2
        obtain ⟨z, ez, rz⟩ := h2.lookup e
        exact ⟨p, C, dx, xs, z, rfl, s1.fh _ _ h1, cl C, na C, ez, k _ _ F1 H1 s1 rz w2⟩
    | _ => exact w1.elim
/-- the same where the class is known -/
def wFldC (C : Addr) (f : Str) (wa : WE) : WE := fun env er q => wa env er fun x => match x with
  | .ins C' fs => C' = C ∧ match fs.lookup f with
    | some d => q d
    | none => False
  | _ => False
theorem sim_fldC {f : Str} {C : Addr} (cl : Cls K C) (na : NoAttr K C f) (ha : SimE K E ta wa) : SimE K E (tFld K ta f) (wFldC C f wa) := fun B env F σ H Q er q a l w k =>
  ha B env F σ H _ er _ a l w fun x d F1 H1 s1 r1 w1 => by
    cases r1 with
    | @ins p C' dx xs fs h1 h2 =>
      obtain ⟨e1, w2⟩ := w1
      subst e1
      cases e : fs.lookup f with
      | none =>
        rw [e] at w2
        exact w2.elim
      | some y =>
        rw [e] at w2
        obtain ⟨z, ez, rz⟩ := h2.lookup e
        exact ⟨p, C', dx, xs, z, rfl, s1.fh _ _ h1, cl, na, ez, k _ _ F1 H1 s1 rz w2⟩
    | _ => exact w1.elim
/-- a built-in called -/
def wCB (f : List D → (D → Prop) → Prop) (wa : WA) : WE := fun env er q => wa env er fun ds => f ds q
theorem sim_cb {r : List V → Hp → VK → Prop} {f : List D → (D → Prop) → Prop} {t : TA} {w : WA} (hr : SimC K r f) (ha : SimA K E t w) : SimE K E (tCB r t) (wCB f w) := fun B env F σ H Q er q a l w k =>
  ha B env F σ H _ er _ a l w fun xs ds F1 H1 s1 r1 w1 => hr F1 H1 xs ds Q q s1.fh r1 w1 (k.step s1)
/-- a built-in called with a list that is looked at -/
def SimCL (K : PySem.W.Frag) (r : List V → Hp → VK → Prop) (f : List D → (D → Prop) → Prop) : Prop := ∀ (F H : Hp) (a : Addr) (xs : List V) (l : List D) (Q : VK) (q : D → Prop), Same F H → SqL K H a xs → RepA K F xs l → f l q → VL K F H Q q → r [.ref a] H Q
def wCBL (f : List D → (D → Prop) → Prop) (wo : WO) : WE := fun env er q => wo env er fun l => f l q
theorem sim_cbl {r : List V → Hp → VK → Prop} {f : List D → (D → Prop) → Prop} {w : WO} (hr : SimCL K r f) (ha : SimL K E ta w) : SimE K E (tCB r (tCons ta tNil)) (wCBL f w) := fun B env F σ H Q er q a l w k =>
  ha B env F σ H _ er _ a l w fun p xs ds F1 H1 s1 h1 r1 w1 => hr F1 H1 p xs ds Q q s1.fh h1 r1 w1 (k.step s1)

/-! ### own defs called -/
def spOf (K : PySem.W.Frag) (n : Nat) (S : FS) : Sp := fun vs H Q E => ∃ (F : Hp) (ds : List D) (er : ER) (q : D → Prop), ds.length = n ∧ Same F H ∧ RepA K F vs ds ∧ S ds er q ∧ VL K F H Q q ∧ EL K ⟨F, H⟩ E er
theorem spOf_len {n : Nat} {S : FS} {vs : List V} {H : Hp} {Q : VK} {E : XK} (h : spOf K n S vs H Q E) : vs.length = n := by
  obtain ⟨F, ds, er, q, hl, _, r, _⟩ := h
  rw [r.len, hl]
theorem EL.at {B : Ent} {env : EV} {F H : Hp} {σ : St} {er : ER} (l : EL K B E er) (a : At K B env F σ H) : EL K ⟨F, H⟩ E er := fun C d fs F' H' s r z => l C d fs F' H' (a.st.trans s) r z
theorem EL.no {B : Ent} : EL K B E (fun _ => False) := fun C d fs F' H' _ _ z => z.elim
def wCall (n : Nat) (S : FS) (dd : List D) (wa : WA) : WE := fun env er q => wa env er fun ds => (ds ++ dd).length = n ∧ S (ds ++ dd) er q
theorem sim_call {n : Nat} {S : FS} {dvs : List V} {dd : List D} {t : TA} {w : WA} (hd : ∀ F, RepA K F dvs dd) (ha : SimA K E t w) : SimE K E (tCall (spOf K n S) dvs E t) (wCall n S dd w) := fun B env F σ H Q er q a l w k =>
  ha B env F σ H _ er _ a l w fun xs ds F1 H1 s1 r1 w1 => ⟨F1, ds ++ dd, er, q, w1.1, s1.fh, r1.app (hd F1), w1.2, k.step s1, l.at (a.step s1)⟩
/-- .. that raises nothing -/
def wCall0 (n : Nat) (S : FS) (dd : List D) (wa : WA) : WE := fun env er q => wa env er fun ds => (ds ++ dd).length = n ∧ S (ds ++ dd) (fun _ => False) q
theorem sim_call0 {n : Nat} {S : FS} {dvs : List V} {dd : List D} {t : TA} {w : WA} {E1 : XK} (hd : ∀ F, RepA K F dvs dd) (ha : SimA K E t w) : SimE K E (tCall (spOf K n S) dvs E1 t) (wCall0 n S dd w) := fun B env F σ H Q er q a l w k =>
  ha B env F σ H _ er _ a l w fun xs ds F1 H1 s1 r1 w1 => ⟨F1, ds ++ dd, _, q, w1.1, s1.fh, r1.app (hd F1), w1.2, k.step s1, EL.no⟩
theorem rd0 : ∀ F, RepA K F [] [] := fun _ => .nil
/-- keywords: g puts the values in the parameters' order -/
def wCallN (n m p : Nat) (S : FS) (g : List D → List D → List D) (wa wk : WA) : WE := fun env er q => wa env er fun ds => wk env er fun zs => ds.length = n ∧ zs.length = m ∧ (g ds zs).length = p ∧ S (g ds zs) er q
theorem sim_callN {n m p : Nat} {S : FS} {gV : List V → List V → List V} {g : List D → List D → List D} {t tk : TA} {w wk : WA} (hg : ∀ F vs ds us zs, RepA K F vs ds → RepA K F us zs → RepA K F (gV vs us) (g ds zs)) (ha : SimA K E t w) (hk : SimA K E tk wk) :
    SimE K E (tCallN n m (spOf K p S) gV E t tk) (wCallN n m p S g w wk) := fun B env F σ H Q er q a l w k =>
  ha B env F σ H _ er _ a l w fun xs ds F1 H1 s1 r1 w1 => hk B env F1 σ H1 _ er _ (a.step s1) l w1 fun ys zs F2 H2 s2 r2 w2 =>
    ⟨by rw [r1.len]; exact w2.1, by rw [r2.len]; exact w2.2.1, F2, g ds zs, er, q, w2.2.2.1, s2.fh, hg F2 _ _ _ _ (RepA.mono s2.ff r1) r2, w2.2.2.2, k.step (s1.trans s2), l.at (a.step (s1.trans s2))⟩
/-- o.m(..) -/
def wMeth (C : Addr) (m : Str) (n : Nat) (S : FS) (dd : List D) (wa : WE) (wr : WA) : WE := fun env er q => wa env er fun o => match o with
  | .ins C' fs => C' = C ∧ fs.lookup m = none ∧ wr env er fun ds => (o :: (ds ++ dd)).length = n ∧ S (o :: (ds ++ dd)) er q
  | _ => False
theorem sim_meth {C : Addr} {m : Str} {n : Nat} {S : FS} {dvs : List V} {dd : List D} {t : TA} {w : WA} (hd : ∀ F, RepA K F dvs dd) (ho : SimE K E ta wa) (ha : SimA K E t w) : SimE K E (tMeth C m (spOf K n S) dvs E ta t) (wMeth C m n S dd wa w) := fun B env F σ H Q er q a l w k =>
  ho B env F σ H _ er _ a l w fun x d F1 H1 s1 r1 w1 => by
    cases r1 with
    | @ins p C' dx xs fs h1 h2 =>
      obtain ⟨e1, e2, w2⟩ := w1
      subst e1
      refine ⟨p, dx, xs, rfl, s1.fh _ _ h1, h2.none e2, ha B env F1 σ H1 _ er _ (a.step s1) l w2 fun ys ds F2 H2 s2 r2 w3 => ?_⟩
      exact ⟨F2, _, er, q, w3.1, s2.fh, .cons ((Rep.ins h1 h2).mono s2.ff) (r2.app (hd F2)), w3.2, k.step (s1.trans s2), l.at (a.step (s1.trans s2))⟩
    | _ => exact w1.elim

/-! ### statements -/
def sNext : WS := fun n env => n.nx env
theorem sims_next : SimS K E tNext sNext := fun B Dd n L env F σ H a w => L.nx env F σ H a w
def sSeq (w u : WS) : WS := fun n env => w { n with nx := u n } env
theorem sims_seq (h : SimS K E ts ws) (g : SimS K E ts' ws') : SimS K E (tSeq ts ts') (sSeq ws ws') := fun B Dd n L env F σ H a w =>
  h B { Dd with nx := ts' Dd } { n with nx := ws' n } ⟨fun env' F' σ' H' a' w' => g B Dd n L env' F' σ' H' a' w', L.rt, L.bk, L.ct, L.er⟩ env F σ H a w
def sBreak : WS := fun n env => n.bk env
theorem sims_break : SimS K E tBreak sBreak := fun B Dd n L env F σ H a w => L.bk env F σ H a w
def sCont : WS := fun n env => n.ct env
theorem sims_cont : SimS K E tCont sCont := fun B Dd n L env F σ H a w => L.ct env F σ H a w
def sNever : WS := fun _ _ => False
theorem sims_never : SimS K E tNever sNever := fun B Dd n L env F σ H a w => w.elim
def sDrop (we : WE) : WS := fun n env => we env n.er fun _ => n.nx env
theorem sims_drop (h : SimE K E te we) : SimS K E (tDrop te) (sDrop we) := fun B Dd n L env F σ H a w =>
  h B env F σ H _ n.er _ a L.er w fun x d F1 H1 s1 r1 w1 => L.nx env F1 σ H1 (a.step s1) w1
def sRet (we : WE) : WS := fun n env => we env n.er n.rt
theorem sims_ret (h : SimE K E te we) : SimS K E (tRet te) (sRet we) := fun B Dd n L env F σ H a w =>
  h B env F σ H _ n.er _ a L.er w fun x d F1 H1 s1 r1 w1 => L.rt x d F1 H1 (a.st.trans s1) r1 w1
def sRetN : WS := fun n _ => n.rt .non
theorem sims_retN : SimS K E tRetN sRetN := fun B Dd n L env F σ H a w => L.rt .non .non F H a.st .non w
/-- return found, one's own list -/
def sRetO (i : Nat) : WS := fun n env => match env[i]? with
  | some (.own l) => n.rt (.lst l)
  | _ => False
theorem sims_retO : SimS K E (tRet (tVar i)) (sRetO i) := fun B Dd n L env F σ H a w => by
  unfold sRetO at w
  split at w
  · rename_i l e
    obtain ⟨p, xs, ex, h1, r, h2, h3⟩ := a.sl i _ e
    refine ⟨.ref p, ex, ?_⟩
    exact L.rt _ _ _ H (a.freeze e ex h1 h2 h3 r).st (.lst upd_same (r.mono (same_new h2))) w
  · exact w.elim
def sIf (wt : WT) (w u : WS) : WS := fun n env => wt env n.er fun b => (b = true → w n env) ∧ (b = false → u n env)
theorem sims_if (ht : SimT K E tt wt) (h : SimS K E ts ws) (g : SimS K E ts' ws') : SimS K E (tIfS tt ts ts') (sIf wt ws ws') := fun B Dd n L env F σ H a w =>
  ht B env F σ H _ n.er _ a L.er w fun b F1 H1 s1 w1 => by
    cases b with
    | true => exact h B Dd n L env F1 σ H1 (a.step s1) (w1.1 rfl)
    | false => exact g B Dd n L env F1 σ H1 (a.step s1) (w1.2 rfl)
def sAsg (i : Nat) (we : WE) : WS := fun n env => we env n.er fun d => n.nx (env.set i (.d d))
theorem sims_asg (h : SimE K E te we) : SimS K E (tAsg te (gName i)) (sAsg i we) := fun B Dd n L env F σ H a w =>
  h B env F σ H _ n.er _ a L.er w fun x d F1 H1 s1 r1 w1 => L.nx _ F1 _ H1 ((a.step s1).set r1) w1
/-- found = [..] -/
def sAsgO (i : Nat) (wo : WO) : WS := fun n env => wo env n.er fun l => n.nx (env.set i (.own l))
theorem sims_asgO {w : WO} (h : SimO K E te w) : SimS K E (tAsg te (gName i)) (sAsgO i w) := fun B Dd n L env F σ H a w =>
  h B env F σ H _ n.er _ a L.er w fun p xs l F1 H1 s1 hp h1 hf r1 w1 => L.nx _ F1 _ H1 (a.setNew s1 hp h1 hf r1) w1
/-- a, b = .., .. -/
def sPar (i j : Nat) (wa wb : WE) : WS := fun n env => wa env n.er fun x => wb env n.er fun y => n.nx ((env.set i (.d x)).set j (.d y))
theorem sims_par (ha : SimE K E ta wa) (hb : SimE K E tb wb) : SimS K E (tPar i j (tCons ta (tCons tb tNil))) (sPar i j wa wb) := fun B Dd n L env F σ H a w =>
  ha B env F σ H _ n.er _ a L.er w fun x d F1 H1 s1 r1 w1 => hb B env F1 σ H1 _ n.er _ (a.step s1) L.er w1 fun y e F2 H2 s2 r2 w2 =>
    ⟨x, y, rfl, L.nx _ F2 _ H2 (((a.step (s1.trans s2)).set (r1.mono s2.ff)).set r2) w2⟩
/-- found, rest = [], .. -/
def sParO (i j : Nat) (wo : WO) (wb : WE) : WS := fun n env => wo env n.er fun l => wb env n.er fun y => n.nx ((env.set i (.own l)).set j (.d y))
theorem sims_parO {w : WO} (ha : SimO K E ta w) (hb : SimE K E tb wb) : SimS K E (tPar i j (tCons ta (tCons tb tNil))) (sParO i j w wb) := fun B Dd n L env F σ H a w =>
  ha B env F σ H _ n.er _ a L.er w fun p xs l F1 H1 s1 hp h1 hf r1 w1 => hb B env F1 σ H1 _ n.er _ (a.step s1) L.er w1 fun y e F2 H2 s2 r2 w2 =>
    ⟨.ref p, y, rfl, L.nx _ F2 _ H2 ((a.setNew (s1.trans s2) hp (s2.hh _ _ h1) (s2.nw p hf (by rw [h1]; exact fun z => nomatch z)) (RepA.mono s2.ff r1)).set r2) w2⟩
/-- found, lines = [], [] -/
def sParOO (i j : Nat) (wo wp : WO) : WS := fun n env => wo env n.er fun l => wp env n.er fun m => n.nx ((env.set i (.own l)).set j (.own m))
theorem sims_parOO {w wp : WO} (ha : SimO K E ta w) (hb : SimO K E tb wp) (hij : i ≠ j) : SimS K E (tPar i j (tCons ta (tCons tb tNil))) (sParOO i j w wp) := fun B Dd n L env F σ H a w =>
  ha B env F σ H _ n.er _ a L.er w fun p xs l F1 H1 s1 hp h1 hf r1 w1 => hb B env F1 σ H1 _ n.er _ (a.step s1) L.er w1 fun p2 ys m F2 H2 s2 hp2 h2 hf2 r2 w2 => by
    have g1 := s2.hh _ _ h1
    have f1 := s2.nw p hf (by rw [h1]; exact fun z => nomatch z)
    have a1 := a.setNew (i := i) (s1.trans s2) hp g1 f1 (RepA.mono s2.ff r1)
    have hne : p ≠ p2 := ne_of_none h1 hp2
    refine ⟨.ref p, .ref p2, rfl, L.nx _ F2 _ H2 (a1.setMine (sv := .own m) trivial ⟨p2, ys, rfl, h2, r2, hf2, a.st.hh.free (s1.hh.free hp2)⟩ fun k t hk e mt z => ?_) w2⟩
    rcases get_set e with ⟨rfl, rfl⟩ | ⟨hki, e'⟩
    · rcases get_set z with ⟨_, z⟩ | ⟨z, _⟩
      · cases z
        exact hne rfl
      · exact z rfl
    · rw [List.getElem?_set_ne (fun y => hki y.symm)] at z
      exact (a.sl k t e').there mt z (s1.hh.free hp2)
/-- x += e -/
def sAug (i : Nat) (f : Int → Int → Int) (we : WE) : WS := fun n env => match env[i]? with
  | some (.d (.int x)) => we env n.er fun y => match y with
    | .int z => n.nx (env.set i (.d (.int (f x z))))
    | _ => False
  | _ => False
theorem sims_aug {f : Int → Int → Int} (h : SimE K E te we) : SimS K E (tAug i te (ipI f)) (sAug i f we) := fun B Dd n L env F σ H a w => by
  unfold sAug at w
  split at w
  · rename_i x e
    obtain ⟨vx, ex, rx⟩ := a.var e
    cases rx
    refine ⟨_, ex, h B env F σ H _ n.er _ a L.er w fun y d F1 H1 s1 r1 w1 => ?_⟩
    cases r1 with
    | int z => exact ⟨x, z, rfl, rfl, L.nx _ F1 _ H1 ((a.step s1).set (.int (f x z))) w1⟩
    | _ => exact w1.elim
  · exact w.elim
/-- xs.append(e), one's own list -/
def sApp (i : Nat) (we : WE) : WS := fun n env => match env[i]? with
  | some (.own l) => we env n.er fun d => l.length < sizeLine ∧ n.nx (env.set i (.own (l ++ [d])))
  | _ => False
theorem sims_app (h : SimE K E te we) : SimS K E (tDrop (tBM K "list" rAppend (tVar i) (tCons te tNil))) (sApp i we) := fun B Dd n L env F σ H a w => by
  unfold sApp at w
  split at w
  · rename_i l e
    obtain ⟨p, xs, ex, h1, r, h2, h3⟩ := a.sl i _ e
    refine ⟨.ref p, ex, .inl ⟨rfl, xs, SqL.of h1⟩, h B env F σ H _ n.er _ a L.er w fun x d F1 H1 s1 r1 w1 => ?_⟩
    have g1 := s1.hh _ _ h1
    refine ⟨p, xs, x, rfl, rfl, g1, by rw [r.len]; exact w1.1, ?_⟩
    exact L.nx _ F1 _ _ ((a.step s1).change e trivial ex (s1.nw p h2 (by rw [h1]; exact fun z => nomatch z)) h3 ((RepA.mono s1.ff r).app (.one r1))) w1.2
  · exact w.elim
/-- from here on found is a list as any other -/
def sFrz (i : Nat) (w : WS) : WS := fun n env => match env[i]? with
  | some (.own l) => w n (env.set i (.d (.lst l)))
  | _ => False
theorem sims_frz (h : SimS K E ts ws) : SimS K E ts (sFrz i ws) := fun B Dd n L env F σ H a w => by
  unfold sFrz at w
  split at w
  · rename_i l e
    obtain ⟨p, xs, ex, h1, r, h2, h3⟩ := a.sl i _ e
    exact h B Dd n L _ _ σ H (a.freeze e ex h1 h2 h3 r) w
  · exact w.elim
/-- this way is never gone -/
theorem sims_no (h : SimS K E ts ws) (e : ∀ n env, ws' n env → ws n env) : SimS K E ts ws' := fun B Dd n L env F σ H a w => h B Dd n L env F σ H a (e n env w)

/-! ### the floor is raised -/
theorem Stp.up {F0 F1 F3 H0 H1 H3 : Hp} (s : Stp F1 F3 H0 H3) (s1 : Stp F0 F1 H0 H1) : Stp F0 F3 H0 H3 := ⟨s1.ff.trans s.ff, s.hh, s.fh, fun a h1 h2 => s.nw a (s1.nw a h1 h2) h2⟩
theorem Stp.dn {F0 F1 F3 H0 H1 H3 : Hp} (s : Stp F0 F3 H0 H3) (s1 : Stp F0 F1 H0 H1) (e : Same F1 F3) : Stp F1 F3 H0 H3 := ⟨e, s.hh, s.fh, fun a h1 h2 => s.nw a (s1.ff.free h1) h2⟩
theorem At.up {B : Ent} {env : EV} {F1 F3 H1 H3 : Hp} {σ : St} (a : At K ⟨F1, B.H⟩ env F3 σ H3) (s1 : Stp B.F F1 B.H H1) : At K B env F3 σ H3 := ⟨a.len, a.st.up s1, a.sl, a.inj⟩
theorem At.dn {B : Ent} {env : EV} {F1 F3 H1 H3 : Hp} {σ : St} (a : At K B env F3 σ H3) (s1 : Stp B.F F1 B.H H1) (e : Same F1 F3) : At K ⟨F1, B.H⟩ env F3 σ H3 := ⟨a.len, a.st.dn s1 e, a.sl, a.inj⟩

/-! ### loops -/
/-- over some items -/
def sLoop (body : WS) (g : D → EV → (EV → Prop) → Prop) (n : DN) : List D → EV → Prop
  | [], env => n.nx env
  | x :: r, env => g x env fun env1 => body { n with nx := sLoop body g n r, ct := sLoop body g n r, bk := n.nx } env1
/-- a target -/
def SimG (K : PySem.W.Frag) (js : List Nat) (tg : TG) (g : D → EV → (EV → Prop) → Prop) : Prop := ∀ (B : Ent) (env : EV) (F : Hp) (σ : St) (H : Hp) (x : V) (d : D) (Q : St → Hp → Prop) (q : EV → Prop), At K B env F σ H → Rep K F x d → g d env q →
  (∀ env' σ', At K B env' F σ' H → σ'.length = σ.length → (∀ i, i ∉ js → σ'[i]? = σ[i]?) → q env' → Q σ' H) → tg x σ H Q
def gVar (i : Nat) : D → EV → (EV → Prop) → Prop := fun d env q => q (env.set i (.d d))
theorem off1 {α : Type} {l : List α} {i k : Nat} {x : α} (h : k ∉ [i]) : (l.set i x)[k]? = l[k]? := List.getElem?_set_ne fun z => h (by simp [z])
theorem simg_name {i : Nat} : SimG K [i] (gName i) (gVar i) := fun B env F σ H x d Q q a r w k => k _ _ (a.set r) (by rw [List.length_set]) (fun _ h => off1 h) w
def gTwo (i j : Nat) : D → EV → (EV → Prop) → Prop := fun d env q => match d with
  | .tup [x, y] => q ((env.set i (.d x)).set j (.d y))
  | _ => False
theorem simg_two {i j : Nat} : SimG K [i, j] (gTup K 2 (gCons (gName i) (gCons (gName j) gNil))) (gTwo i j) := fun B env F σ H x d Q q a r w k => by
  unfold gTwo at w
  split at w
  · rename_i y z
    cases r with
    | tup h1 h2 =>
      cases h2 with
      | cons r1 h2 =>
        cases h2 with
        | cons r2 h2 =>
          cases h2
          refine ⟨_, _, rfl, same_t a.fh h1, rfl, _, _, rfl, _, _, rfl, rfl, k _ _ ((a.set r1).set r2) (by rw [List.length_set, List.length_set]) (fun n h => ?_) w⟩
          rw [off1 (fun z => h (by simp at z; simp [z])), off1 (fun z => h (by simp at z; simp [z]))]
  · exact w.elim
theorem drop_get {α : Type} {l : List α} {i : Nat} {x : α} (h : l[i]? = some x) : l.drop i = x :: l.drop (i + 1) := by
  have hi := lt_of_get h
  rw [List.drop_eq_getElem_cons hi]
  rw [List.getElem?_eq_getElem hi] at h
  rw [Option.some.inj h]
/-- an iterator over items that are known -/
def Wk (K : PySem.W.Frag) (J : It) (F0 : Hp) (ds : List D) : Prop := ∀ (i : Nat) (F H : Hp), Same F0 F → Same F H → (∀ d, ds[i]? = some d → J.go i H ∧ ∀ x H', J.yld i H x H' → ∃ F', Stp F F' H H' ∧ Rep K F' x d) ∧ (i = ds.length → J.stop i H)
abbrev WI := EV → ER → (List D → Prop) → Prop
def SimI (K : PySem.W.Frag) (E : XK) (wi : TI) (w : WI) : Prop := ∀ (B : Ent) (env : EV) (F : Hp) (σ : St) (H : Hp) (R : It → Hp → Prop) (er : ER) (q : List D → Prop), At K B env F σ H → EL K B E er → w env er q →
  (∀ (J : It) (ds : List D) (F' H' : Hp), Stp F F' H H' → Wk K J F' ds → q ds → R J H') → wi σ H R
def sFor (wi : WI) (g : D → EV → (EV → Prop) → Prop) (body : WS) : WS := fun n env => wi env n.er fun l => sLoop body g n l env
theorem sims_for {wi : TI} {wl : WI} {js : List Nat} {tg : TG} {g : D → EV → (EV → Prop) → Prop} (hl : SimI K E wi wl) (hg : SimG K js tg g) (hb : SimS K E ts ws) : SimS K E (tFor wi tg ts) (sFor wl g ws) := fun B Dd n L env F σ H a w =>
  hl B env F σ H _ n.er _ a L.er w fun J l F1 H1 s1 wk w2 => by
    obtain ⟨P, hP⟩ : ∃ P : Nat → St → Hp → Prop, P = fun i σ' H' => ∃ env' F', At K B env' F' σ' H' ∧ Same F1 F' ∧ sLoop ws g n (l.drop i) env' := ⟨_, rfl⟩
    refine ⟨fun i m σ' H' => m = l.length - i ∧ i ≤ l.length ∧ P i σ' H', ⟨l.length, by simp, Nat.zero_le _, by rw [hP]; exact ⟨env, F1, a.step s1, Same.refl _, by rw [List.drop_zero]; exact w2⟩⟩, ?_⟩
    rintro i m σ' H' ⟨rfl, hi, h⟩
    rw [hP] at h
    obtain ⟨env', F', a', sf, wz⟩ := h
    obtain ⟨k1, k2⟩ := wk i F' H' sf a'.fh
    by_cases hlt : i < l.length
    · obtain ⟨dy, hd⟩ : ∃ dy, l[i]? = some dy := ⟨_, List.getElem?_eq_getElem hlt⟩
      obtain ⟨kg, ky⟩ := k1 dy hd
      refine .inr ⟨kg, P (i + 1), fun σ2 H2 p2 => ⟨l.length - (i + 1), by omega, rfl, hlt, p2⟩, fun y H2 hy => ?_⟩
      obtain ⟨F2, s2, ry⟩ := ky y H2 hy
      rw [drop_get hd] at wz
      have up : ∀ {env3 : EV} {F3 : Hp} {σ3 : St} {H3 : Hp}, At K ⟨F1, B.H⟩ env3 F3 σ3 H3 → At K B env3 F3 σ3 H3 := fun a3 => a3.up (a.step s1).st
      refine hg ⟨F1, B.H⟩ env' F2 σ' H2 y dy _ _ ((a'.step s2).dn (a.step s1).st (sf.trans s2.ff)) ry wz fun env2 σ2 a2 _ _ w3 => ?_
      exact hb ⟨F1, B.H⟩ { Dd with nx := P (i + 1), ct := P (i + 1), bk := Dd.nx } { n with nx := sLoop ws g n (l.drop (i + 1)), ct := sLoop ws g n (l.drop (i + 1)), bk := n.nx } ⟨fun env3 F3 σ3 H3 a3 w4 => by rw [hP]; exact ⟨env3, F3, up a3, a3.st.ff, w4⟩, fun x d F3 H3 s3 r3 w4 => L.rt x d F3 H3 (s3.up (a.step s1).st) r3 w4, fun env3 F3 σ3 H3 a3 w4 => L.nx _ _ _ _ (up a3) w4, fun env3 F3 σ3 H3 a3 w4 => by rw [hP]; exact ⟨env3, F3, up a3, a3.st.ff, w4⟩,
        fun C d fs F3 H3 s3 r3 w4 => L.er C d fs F3 H3 (s3.up (a.step s1).st) r3 w4⟩ env2 F2 σ2 H2 a2 w3
    · have e : i = l.length := by omega
      subst e
      rw [List.drop_length] at wz
      exact .inl ⟨k2 rfl, L.nx env' F' σ' H' a' wz⟩

/-! ### what is walked -/
def iSeq (we : WE) : WI := fun env er q => we env er fun d => match d with
  | .lst l => q l
  | .tup l => q l
  | .scr ns => q (ns.map .int)
  | .str x => q (x.cps.toList.map fun c => .str ⟨#[c]⟩)
  | _ => False
def iLst (we : WE) : WI := fun env er q => we env er fun d => match d with
  | .lst l => q l
  | .scr ns => q (ns.map .int)
  | _ => False
theorem wk_list {F0 : Hp} {a : Addr} {xs : List V} {ds : List D} (h : SqL K F0 a xs) (r : RepA K F0 xs ds) : Wk K (Itl K a) F0 ds := fun i F H sf fh => by
  have hH : SqL K H a xs := fh.seq (sf.seq h)
  refine ⟨fun d hd => ?_, fun e => ⟨xs, hH, by rw [r.len, e]; exact Nat.le_refl _⟩⟩
  obtain ⟨x, hx, rx⟩ := r.getD hd
  refine ⟨⟨xs, x, hH, hx⟩, fun y H' hy => ?_⟩
  obtain ⟨rfl, hy⟩ := hy
  have e := hy xs hH
  rw [hx] at e
  cases e
  exact ⟨F, Stp.refl fh, rx.mono sf⟩
theorem wk_tup {F0 : Hp} {a : Addr} {xs : List V} {ds : List D} (h : SqT K F0 a xs) (r : RepA K F0 xs ds) : Wk K (Itt K a) F0 ds := fun i F H sf fh => by
  have hH : SqT K H a xs := same_t fh (same_t sf h)
  refine ⟨fun d hd => ?_, fun e => ⟨xs, hH, by rw [r.len, e]; exact Nat.le_refl _⟩⟩
  obtain ⟨x, hx, rx⟩ := r.getD hd
  refine ⟨⟨xs, x, hH, hx⟩, fun y H' hy => ?_⟩
  obtain ⟨rfl, hy⟩ := hy
  have e := hy xs hH
  rw [hx] at e
  cases e
  exact ⟨F, Stp.refl fh, rx.mono sf⟩
theorem simi_list {tl : TE} {wl : WE} (h : SimE K E tl wl) : SimI K E (iList K tl) (iLst wl) := fun B env F σ H R er q a l w k =>
  h B env F σ H _ er _ a l w fun x d F1 H1 s1 r1 w1 => by
    cases r1 with
    | lst h1 h2 => exact ⟨_, rfl, ⟨_, SqL.of (s1.fh _ _ h1)⟩, k _ _ F1 H1 s1 (wk_list (SqL.of h1) h2) w1⟩
    | scr h1 => exact ⟨_, rfl, ⟨_, s1.fh.seq h1⟩, k _ _ F1 H1 s1 (wk_list h1 (RepA.ints _)) w1⟩
    | _ => exact w1.elim
def iTupW (we : WE) : WI := fun env er q => we env er fun d => match d with
  | .tup l => q l
  | _ => False
theorem simi_tup {tl : TE} {wl : WE} (h : SimE K E tl wl) : SimI K E (iTup K tl) (iTupW wl) := fun B env F σ H R er q a l w k =>
  h B env F σ H _ er _ a l w fun x d F1 H1 s1 r1 w1 => by
    cases r1 with
    | tup h1 h2 => exact ⟨_, rfl, ⟨_, same_t s1.fh h1⟩, k _ _ F1 H1 s1 (wk_tup h1 h2) w1⟩
    | _ => exact w1.elim
def rngD (lo : Int) (n : Nat) : List D := (List.range n).map fun i => .int (lo + (i : Nat))
theorem wk_rng {F0 : Hp} {lo : Int} {n : Nat} : Wk K (Itr lo n) F0 (rngD lo n) := fun i F H _ fh => by
  unfold rngD
  refine ⟨fun d hd => ?_, fun e => ?_⟩
  · have hi := lt_of_get hd
    rw [List.length_map, List.length_range] at hi
    rw [List.getElem?_map, List.getElem?_range hi] at hd
    cases hd
    refine ⟨hi, fun y H' hy => ?_⟩
    obtain ⟨rfl, rfl⟩ := hy
    exact ⟨F, Stp.refl fh, .int _⟩
  · rw [List.length_map, List.length_range] at e
    exact Nat.le_of_eq e.symm
def iRg1 (wa : WA) : WI := fun env er q => wa env er fun ds => match ds with
  | [.int n] => -(2 ^ 62) ≤ n ∧ n < 2 ^ 62 ∧ q (rngD 0 n.toNat)
  | _ => False
theorem simi_rng1 {ta : TA} {wa : WA} (h : SimA K E ta wa) : SimI K E (iRng1 ta) (iRg1 wa) := fun B env F σ H R er q a l w k =>
  h B env F σ H _ er _ a l w fun xs ds F1 H1 s1 r1 w1 => by
    split at w1
    · cases r1 with
      | cons r1 r2 =>
        cases r1
        cases r2
        exact ⟨_, rfl, w1.1, w1.2.1, k _ _ F1 H1 s1 wk_rng w1.2.2⟩
    · exact w1.elim
def iRg2 (wa : WA) : WI := fun env er q => wa env er fun ds => match ds with
  | [.int i, .int j] => (-(2 ^ 62) ≤ i ∧ i < 2 ^ 62 ∧ -(2 ^ 62) ≤ j ∧ j < 2 ^ 62) ∧ q (rngD i (j - i).toNat)
  | _ => False
theorem simi_rng2 {ta : TA} {wa : WA} (h : SimA K E ta wa) : SimI K E (iRng2 ta) (iRg2 wa) := fun B env F σ H R er q a l w k =>
  h B env F σ H _ er _ a l w fun xs ds F1 H1 s1 r1 w1 => by
    split at w1
    · cases r1 with
      | cons r1 r2 =>
        cases r1
        cases r2 with
        | cons r2 r3 =>
          cases r2
          cases r3
          exact ⟨_, _, rfl, w1.1, k _ _ F1 H1 s1 wk_rng w1.2⟩
    · exact w1.elim
def iSt (we : WE) : WI := fun env er q => we env er fun d => match d with
  | .str x => q (x.cps.toList.map fun c => .str ⟨#[c]⟩)
  | _ => False
theorem wk_str {F0 : Hp} {x : Str} : Wk K (Its x) F0 (x.cps.toList.map fun c => .str ⟨#[c]⟩) := fun i F H _ fh => by
  refine ⟨fun d hd => ?_, fun e => ?_⟩
  · have hi := lt_of_get hd
    rw [List.length_map, Array.length_toList] at hi
    rw [List.getElem?_map, Array.getElem?_toList] at hd
    refine ⟨hi, fun y H' hy => ?_⟩
    obtain ⟨rfl, c, hc, rfl⟩ := hy
    rw [hc] at hd
    cases hd
    exact ⟨F, Stp.refl fh, .str _⟩
  · rw [List.length_map, Array.length_toList] at e
    exact Nat.le_of_eq e.symm
theorem simi_str {tl : TE} {wl : WE} (h : SimE K E tl wl) : SimI K E (iStr tl) (iSt wl) := fun B env F σ H R er q a l w k =>
  h B env F σ H _ er _ a l w fun x d F1 H1 s1 r1 w1 => by
    cases r1 with
    | str x => exact ⟨x, rfl, k _ _ F1 H1 s1 wk_str w1⟩
    | _ => exact w1.elim

/-! ### while -/
def sIter (wt : WT) (body : WS) (n : DN) : Nat → EV → Prop
  | 0, _ => False
  | m + 1, env => wt env n.er fun b => (b = true → body { n with nx := sIter wt body n m, ct := sIter wt body n m, bk := n.nx } env) ∧ (b = false → n.nx env)
def sWhile (wt : WT) (body : WS) : WS := fun n env => ∃ m, sIter wt body n m env
theorem sims_while (ht : SimT K E tt wt) (hb : SimS K E ts ws) : SimS K E (tWhile tt ts) (sWhile wt ws) := fun B Dd n L env F σ H a w => by
  obtain ⟨P, hP⟩ : ∃ P : Nat → St → Hp → Prop, P = fun m σ' H' => ∃ env' F', At K B env' F' σ' H' ∧ sIter wt ws n m env' := ⟨_, rfl⟩
  obtain ⟨m0, w⟩ := w
  refine ⟨P, ⟨m0, by rw [hP]; exact ⟨env, F, a, w⟩⟩, fun m σ' H' h => ?_⟩
  rw [hP] at h
  obtain ⟨env', F', a', w'⟩ := h
  cases m with
  | zero => exact w'.elim
  | succ m =>
    refine ht B env' F' σ' H' _ n.er _ a' L.er w' fun b F2 H2 s2 w2 => ?_
    cases b with
    | true =>
      show (if true = true then _ else _)
      rw [if_pos rfl]
      refine ⟨P m, fun σ3 H3 h3 => ⟨m, Nat.lt_succ_self _, h3⟩, ?_⟩
      exact hb B { Dd with nx := P m, ct := P m, bk := Dd.nx } { n with nx := sIter wt ws n m, ct := sIter wt ws n m, bk := n.nx } ⟨fun env3 F3 σ3 H3 a3 w4 => by rw [hP]; exact ⟨env3, F3, a3, w4⟩, L.rt, L.nx, fun env3 F3 σ3 H3 a3 w4 => by rw [hP]; exact ⟨env3, F3, a3, w4⟩, L.er⟩ env' F2 σ' H2 (a'.step s2) (w2.1 rfl)
    | false =>
      show (if false = true then _ else _)
      rw [if_neg Bool.false_ne_true]
      exact L.nx env' F2 σ' H2 (a'.step s2) (w2.2 rfl)

/-! ### comprehensions -/
def wipeE (env : EV) : List Nat → EV
  | [] => env
  | v :: vs => (wipeE env vs).set v .un
theorem At.wipe {B : Ent} {env : EV} {F H : Hp} {σ : St} (a : At K B env F σ H) : ∀ vs : List Nat, At K B (wipeE env vs) F (wipe σ vs) H
  | [] => a
  | v :: vs => (At.wipe a vs).unset none
theorem wipe_get {σ : St} {i : Nat} : ∀ {vs : List Nat}, i ∉ vs → (wipe σ vs)[i]? = σ[i]?
  | [], _ => rfl
  | v :: vs, h => by
    unfold wipe
    rw [List.getElem?_set_ne (fun z => h (by simp [z])), wipe_get (fun z => h (by simp [z]))]
theorem wipe_in {σ : St} {i : Nat} : ∀ {vs : List Nat}, i ∈ vs → i < σ.length → (wipe σ vs)[i]? = some none
  | v :: vs, h, hl => by
    unfold wipe
    by_cases e : v = i
    · subst e
      rw [List.getElem?_set_self (by rw [wipe_length]; exact hl)]
    · rw [List.getElem?_set_ne e]
      refine wipe_in ?_ hl
      rcases List.mem_cons.mp h with z | z
      · exact absurd z.symm e
      · exact z
theorem wipe_eq {σ σ2 : St} {vs js : List Nat} (hj : ∀ j ∈ js, j ∈ vs) (hl : σ2.length = (wipe σ vs).length) (h : ∀ i, i ∉ js → σ2[i]? = (wipe σ vs)[i]?) : wipe σ2 vs = wipe σ vs := by
  have hl2 : σ2.length = σ.length := by rw [hl, wipe_length]
  apply List.ext_getElem?
  intro i
  by_cases hi : i ∈ vs
  · by_cases hlt : i < σ.length
    · rw [wipe_in hi (by rw [hl2]; exact hlt), wipe_in hi hlt]
    · rw [List.getElem?_eq_none (by rw [wipe_length, hl2]; omega), List.getElem?_eq_none (by rw [wipe_length]; omega)]
  · rw [wipe_get hi, h i (fun z => hi (hj i z))]
def wComp (g : D → EV → (EV → Prop) → Prop) (wt : WT) (we : WE) (ew : EV) (er : ER) (q : List D → Prop) : List D → List D → Prop
  | [], acc => q acc
  | x :: r, acc => g x ew fun env2 => wt env2 er fun b => (b = true → we env2 er fun y => acc.length < sizeLine ∧ wComp g wt we ew er q r (acc ++ [y])) ∧ (b = false → wComp g wt we ew er q r acc)
def wLc (wi : WI) (g : D → EV → (EV → Prop) → Prop) (wt : WT) (we : WE) (vs : List Nat) : WO := fun env er q => wi env er fun ds => wComp g wt we (wipeE env vs) er q ds []
theorem simo_lc {wi : TI} {wl : WI} {js vs : List Nat} {tg : TG} {g : D → EV → (EV → Prop) → Prop} (hl : SimI K E wi wl) (hg : SimG K js tg g) (ht : SimT K E tt wt) (he : SimE K E te we) (hj : ∀ j ∈ js, j ∈ vs) :
    SimO K E (tLc wi tg tt te vs) (wLc wl g wt we vs) := fun B env F σ H Q er q a l w k =>
  hl B env F σ H _ er _ a l w fun J ds F1 H1 s1 wk w2 => fun Dl hD => by
    have a1 := a.step s1
    have hDF : F1 Dl = none := s1.fh.free hD
    have hDH : H Dl = none := s1.hh.free hD
    obtain ⟨P, hP⟩ : ∃ P : Nat → Hp → Prop, P = fun i H' => ∃ (F' : Hp) (acc : List D) (xs : List V), Stp F1 F' H1 H' ∧ H' Dl = some (.lst xs) ∧ F' Dl = none ∧ RepA K F' xs acc ∧ wComp g wt we (wipeE env vs) er q (ds.drop i) acc := ⟨_, rfl⟩
    refine ⟨fun i m H' => m = ds.length - i ∧ i ≤ ds.length ∧ P i H', ⟨ds.length, by simp, Nat.zero_le _, by rw [hP]; exact ⟨F1, [], [], Stp.fresh s1.fh hD, upd_same, hDF, .nil, by rw [List.drop_zero]; exact w2⟩⟩, ?_⟩
    rintro i m H' ⟨rfl, hi, h⟩
    rw [hP] at h
    obtain ⟨F', acc, xs, s', h1, h2, r, wz⟩ := h
    obtain ⟨k1, k2⟩ := wk i F' H' s'.ff s'.fh
    by_cases hlt : i < ds.length
    · obtain ⟨dy, hd⟩ : ∃ dy, ds[i]? = some dy := ⟨_, List.getElem?_eq_getElem hlt⟩
      obtain ⟨kg, ky⟩ := k1 dy hd
      refine .inr ⟨kg, P (i + 1), fun H2 p2 => ⟨ds.length - (i + 1), by omega, rfl, hlt, p2⟩, fun y H2 hy => ?_⟩
      obtain ⟨F2, s2, ry⟩ := ky y H2 hy
      rw [drop_get hd] at wz
      have aw : At K B (wipeE env vs) F2 (wipe σ vs) H2 := ((a1.step s').step s2).wipe vs
      refine hg B _ F2 _ H2 y dy _ _ aw ry wz fun env2 σ2 a2 len2 off w3 => ⟨wipe_eq hj len2 off, ?_⟩
      · refine ht B env2 F2 σ2 H2 _ er _ a2 l w3 fun b F3 H3 s3 w4 => ?_
        have d3 : H3 Dl = some (.lst xs) := s3.hh _ _ (s2.hh _ _ h1)
        have f3 : F3 Dl = none := s3.nw _ (s2.nw _ h2 (by rw [h1]; exact fun z => nomatch z)) (by rw [s2.hh _ _ h1]; exact fun z => nomatch z)
        cases b with
        | true =>
          show (if true = true then _ else _)
          rw [if_pos rfl]
          refine he B env2 F3 σ2 H3 _ er _ (a2.step s3) l (w4.1 rfl) fun z dz F4 H4 s4 r4 w5 => ?_
          have d4 : H4 Dl = some (.lst xs) := s4.hh _ _ d3
          have f4 : F4 Dl = none := s4.nw _ f3 (by rw [d3]; exact fun z => nomatch z)
          refine ⟨xs, d4, by rw [r.len]; exact w5.1, ?_⟩
          rw [hP]
          have st := ((s'.trans s2).trans s3).trans s4
          exact ⟨F4, acc ++ [dz], xs ++ [z], st.mut hD f4, upd_same, f4, (RepA.mono ((s2.trans s3).trans s4).ff r).app (.one r4), w5.2⟩
        | false =>
          show (if false = true then _ else _)
          rw [if_neg Bool.false_ne_true, hP]
          exact ⟨F3, acc, xs, (s'.trans s2).trans s3, d3, f3, RepA.mono (s2.trans s3).ff r, w4.2 rfl⟩
    · have e : i = ds.length := by omega
      subst e
      rw [List.drop_length] at wz
      exact .inl ⟨k2 rfl, k Dl xs acc F' H' (s1.trans s') hDH h1 h2 r wz⟩
end
end DL
/-! DL3: operators, subscripts, built-ins over data; a def's promise. -/
namespace DL
open PySem L2
section
variable {K : PySem.W.Frag} {E : XK} {ta tb tc te : TE} {wa wb wc we : WE} {X : Cx}

/-! ### + - * // % ** -/
def rAddD (K : PySem.W.Frag) : R2 := fun x y H Q => (rI0 (fun i j => .int (i + j))) x y H Q ∨ (∃ i j, x = .str i ∧ y = .str j ∧ i.length + j.length ≤ sizeLine ∧ Q (.str (i ++ j)) H) ∨ rCat x y H Q ∨ rCatA K x y H Q
theorem op_addD : OpR X (binaryOp .Add) (rAddD X.K) := OpR.or op_add (OpR.or op_add_str (OpR.or op_cat op_catA))
def dAdd : D → D → (D → Prop) → Prop
  | .int i, .int j, q => q (.int (i + j))
  | .str s, .str t, q => s.length + t.length ≤ sizeLine ∧ q (.str (s ++ t))
  | .lst a, .lst b, q => a.length + b.length ≤ sizeLine ∧ q (.lst (a ++ b))
  | .tup a, .tup b, q => a.length + b.length ≤ sizeLine ∧ q (.tup (a ++ b))
  | _, _, _ => False
theorem sim_add : Sim2 K (rAddD K) dAdd := fun F H x y d e Q q s r1 r2 w k => by
  cases r1 with
  | int i =>
    cases r2 with
    | int j => exact .inl ⟨i, j, rfl, rfl, k.here s (.int _) w⟩
    | _ => exact w.elim
  | str i =>
    cases r2 with
    | str j => exact .inr (.inl ⟨i, j, rfl, rfl, w.1, k.here s (.str _) w.2⟩)
    | _ => exact w.elim
  | lst h1 a1 =>
    cases r2 with
    | lst h2 a2 =>
      exact .inr (.inr (.inl ⟨_, _, _, _, rfl, rfl, s _ _ h1, s _ _ h2, by rw [a1.len, a2.len]; exact w.1, fun p hp =>
        k _ _ _ _ (Stp.new s hp) (.lst upd_same ((a1.app a2).mono (same_new (s.free hp)))) w.2⟩))
    | _ => exact w.elim
  | @tup a1 xs1 l1 h1 a1' =>
    cases r2 with
    | @tup a2 xs2 l2 h2 a2' =>
      refine .inr (.inr (.inr ⟨_, _, _, _, rfl, rfl, same_t s h1, same_t s h2, by rw [a1'.len, a2'.len]; exact w.1, fun e => ?_, fun _ e => ?_, fun _ _ p hp => ?_⟩))
      · subst e
        cases a1'
        exact k.here s (.tup h2 a2') w.2
      · subst e
        cases a2'
        have w2 := w.2
        rw [List.append_nil] at w2
        exact k.here s (.tup h1 a1') w2
      · exact k _ _ _ _ (Stp.new s hp) (.tup (.inl (.inl upd_same)) ((a1'.app a2').mono (same_new (s.free hp)))) w.2
    | _ => exact w.elim
  | _ => exact w.elim
abbrev rSubD : R2 := rI0 fun i j => .int (i - j)
def dSub : D → D → (D → Prop) → Prop
  | .int i, .int j, q => q (.int (i - j))
  | _, _, _ => False
theorem op_subD : OpR X (binaryOp .Sub) rSubD := op_sub
theorem sim_sub : Sim2 K rSubD dSub := fun F H x y d e Q q s r1 r2 w k => by
  cases r1 with
  | int i =>
    cases r2 with
    | int j => exact ⟨i, j, rfl, rfl, k.here s (.int _) w⟩
    | _ => exact w.elim
  | _ => exact w.elim
def rMulD : R2 := fun x y H Q => (rI CMul fun i j => .int (i * j)) x y H Q ∨ (rI CMulW fun i j => .int (i * j)) x y H Q ∨ rRep x y H Q
theorem op_mulD : OpR X (binaryOp .Mult) rMulD := OpR.or op_mul (OpR.or op_mulW op_rep)
def dMul : D → D → (D → Prop) → Prop
  | .int i, .int j, q => (CMul i j ∨ CMulW i j) ∧ q (.int (i * j))
  | .lst l, .int k, q => (-(2 ^ 63) ≤ k ∧ k < 2 ^ 63 ∧ l.length * k.toNat ≤ sizeLine) ∧ q (.lst (List.replicate k.toNat l).flatten)
  | _, _, _ => False
theorem RepA.rep {F : Hp} {v : List V} {d : List D} (h : RepA K F v d) : ∀ n : Nat, RepA K F (List.replicate n v).flatten (List.replicate n d).flatten
  | 0 => .nil
  | n + 1 => by
    rw [List.replicate_succ, List.flatten_cons, List.replicate_succ, List.flatten_cons]
    exact h.app (RepA.rep h n)
theorem sim_mul : Sim2 K rMulD dMul := fun F H x y d e Q q s r1 r2 w k => by
  cases r1 with
  | int i =>
    cases r2 with
    | int j =>
      rcases w.1 with c | c
      · exact .inl ⟨i, j, rfl, rfl, c, k.here s (.int _) w.2⟩
      · exact .inr (.inl ⟨i, j, rfl, rfl, c, k.here s (.int _) w.2⟩)
    | _ => exact w.elim
  | lst h1 a1 =>
    cases r2 with
    | int j =>
      exact .inr (.inr ⟨_, j, _, rfl, rfl, s _ _ h1, w.1.1, w.1.2.1, by rw [a1.len]; exact w.1.2.2, fun p hp => k _ _ _ _ (Stp.new s hp) (.lst upd_same ((a1.rep _).mono (same_new (s.free hp)))) w.2⟩)
    | _ => exact w.elim
  | _ => exact w.elim
abbrev rDivD : R2 := rI CDivW fun i j => .int (i / j)
def dDiv : D → D → (D → Prop) → Prop
  | .int i, .int j, q => CDivW i j ∧ q (.int (i / j))
  | _, _, _ => False
theorem op_divD : OpR X (binaryOp .FloorDiv) rDivD := op_fdivW
theorem sim_div : Sim2 K rDivD dDiv := fun F H x y d e Q q s r1 r2 w k => by
  cases r1 with
  | int i =>
    cases r2 with
    | int j => exact ⟨i, j, rfl, rfl, w.1, k.here s (.int _) w.2⟩
    | _ => exact w.elim
  | _ => exact w.elim
abbrev rModD : R2 := rI (fun _ j => 0 < j) fun i j => .int (i % j)
def dMod : D → D → (D → Prop) → Prop
  | .int i, .int j, q => 0 < j ∧ q (.int (i % j))
  | _, _, _ => False
theorem op_modD : OpR X (binaryOp .Mod) rModD := op_mod
theorem sim_mod : Sim2 K rModD dMod := fun F H x y d e Q q s r1 r2 w k => by
  cases r1 with
  | int i =>
    cases r2 with
    | int j => exact ⟨i, j, rfl, rfl, w.1, k.here s (.int _) w.2⟩
    | _ => exact w.elim
  | _ => exact w.elim
abbrev rPowD : R2 := rI CPow fun i j => .int (i ^ j.toNat)
def dPow : D → D → (D → Prop) → Prop
  | .int i, .int j, q => CPow i j ∧ q (.int (i ^ j.toNat))
  | _, _, _ => False
theorem op_powD : OpR X (binaryOp .Pow) rPowD := op_pow
theorem sim_pow : Sim2 K rPowD dPow := fun F H x y d e Q q s r1 r2 w k => by
  cases r1 with
  | int i =>
    cases r2 with
    | int j => exact ⟨i, j, rfl, rfl, w.1, k.here s (.int _) w.2⟩
    | _ => exact w.elim
  | _ => exact w.elim
abbrev rNegD : V → Hp → VK → Prop := rU fun i => .int (-i)
def dNeg : D → (D → Prop) → Prop
  | .int i, q => q (.int (-i))
  | _, _ => False
theorem un_negD : UnR X (unaryOp .USub) rNegD := un_neg
theorem sim_neg : Sim1 K rNegD dNeg := fun F H x d Q q s r w k => by
  cases r with
  | int i => exact ⟨i, rfl, k.here s (.int _) w⟩
  | _ => exact w.elim

/-! ### comparisons -/
def rLtD : R2 := fun x y H Q => (rI0 fun i j => .bl (decide (i < j))) x y H Q ∨ (∃ i j, x = .str i ∧ y = .str j ∧ Q (.bl (decide (i.cps.toList < j.cps.toList))) H)
theorem op_ltD : OpR X (compareOp .Lt) rLtD := OpR.or op_lt op_lt_str
def dLt : D → D → (D → Prop) → Prop
  | .int i, .int j, q => q (.bl (decide (i < j)))
  | .str i, .str j, q => q (.bl (decide (i.cps.toList < j.cps.toList)))
  | _, _, _ => False
theorem sim_lt : Sim2 K rLtD dLt := fun F H x y d e Q q s r1 r2 w k => by
  cases r1 with
  | int i =>
    cases r2 with
    | int j => exact .inl ⟨i, j, rfl, rfl, k.here s (.bl _) w⟩
    | _ => exact w.elim
  | str i =>
    cases r2 with
    | str j => exact .inr ⟨i, j, rfl, rfl, k.here s (.bl _) w⟩
    | _ => exact w.elim
  | _ => exact w.elim
def rLeD : R2 := fun x y H Q => (rI0 fun i j => .bl (decide (i ≤ j))) x y H Q ∨ (∃ i j, x = .str i ∧ y = .str j ∧ Q (.bl (!decide (j.cps.toList < i.cps.toList))) H)
theorem op_leD : OpR X (compareOp .LtE) rLeD := OpR.or op_le op_le_str
def dLe : D → D → (D → Prop) → Prop
  | .int i, .int j, q => q (.bl (decide (i ≤ j)))
  | .str i, .str j, q => q (.bl (!decide (j.cps.toList < i.cps.toList)))
  | _, _, _ => False
theorem sim_le : Sim2 K rLeD dLe := fun F H x y d e Q q s r1 r2 w k => by
  cases r1 with
  | int i =>
    cases r2 with
    | int j => exact .inl ⟨i, j, rfl, rfl, k.here s (.bl _) w⟩
    | _ => exact w.elim
  | str i =>
    cases r2 with
    | str j => exact .inr ⟨i, j, rfl, rfl, k.here s (.bl _) w⟩
    | _ => exact w.elim
  | _ => exact w.elim
abbrev rGtD : R2 := rI0 fun i j => .bl (decide (j < i))
theorem op_gtD : OpR X (compareOp .Gt) rGtD := op_gt
def dGt : D → D → (D → Prop) → Prop
  | .int i, .int j, q => q (.bl (decide (j < i)))
  | _, _, _ => False
theorem sim_gt : Sim2 K rGtD dGt := fun F H x y d e Q q s r1 r2 w k => by
  cases r1 with
  | int i =>
    cases r2 with
    | int j => exact ⟨i, j, rfl, rfl, k.here s (.bl _) w⟩
    | _ => exact w.elim
  | _ => exact w.elim
abbrev rGeD : R2 := rI0 fun i j => .bl (decide (j ≤ i))
theorem op_geD : OpR X (compareOp .GtE) rGeD := op_ge
def dGe : D → D → (D → Prop) → Prop
  | .int i, .int j, q => q (.bl (decide (j ≤ i)))
  | _, _, _ => False
theorem sim_ge : Sim2 K rGeD dGe := fun F H x y d e Q q s r1 r2 w k => by
  cases r1 with
  | int i =>
    cases r2 with
    | int j => exact ⟨i, j, rfl, rfl, k.here s (.bl _) w⟩
    | _ => exact w.elim
  | _ => exact w.elim
def isNon : D → Bool
  | .non => true
  | _ => false
abbrev rIsND : R2 := fun x y H Q => y = .non ∧ Q (.bl (decide (x = .non))) H
def dIsN : D → D → (D → Prop) → Prop := fun d e q => match e with
  | .non => q (.bl (isNon d))
  | _ => False
theorem op_isND : OpR X (compareOp .Is) rIsND := op_isN
theorem isNon_rep {F : Hp} {x : V} {d : D} (r : Rep K F x d) : decide (x = V.non) = isNon d := by
  cases r <;> first | rfl | exact decide_eq_false (fun z => nomatch z)
theorem sim_isN : Sim2 K rIsND dIsN := fun F H x y d e Q q s r1 r2 w k => by
  cases r2 with
  | non =>
    refine ⟨rfl, ?_⟩
    rw [isNon_rep r1]
    exact k.here s (.bl _) w
  | _ => exact w.elim
abbrev rNotND : R2 := fun x y H Q => y = .non ∧ Q (.bl (!decide (x = .non))) H
def dNotN : D → D → (D → Prop) → Prop := fun d e q => match e with
  | .non => q (.bl (!isNon d))
  | _ => False
theorem op_notND : OpR X (compareOp .IsNot) rNotND := op_notN
theorem sim_notN : Sim2 K rNotND dNotN := fun F H x y d e Q q s r1 r2 w k => by
  cases r2 with
  | non =>
    refine ⟨rfl, ?_⟩
    rw [isNon_rep r1]
    exact k.here s (.bl _) w
  | _ => exact w.elim

/-! ### == of data -/
mutual
def pd : D → Option PyData
  | .non => some .none
  | .bl b => some (.bool b)
  | .int i => some (.int i)
  | .str x => some (.str x)
  | .tup l => (pdA l).map .tuple
  | .lst l => (pdA l).map .list
  | _ => none
def pdA : List D → Option (List PyData)
  | [] => some []
  | d :: r => match pd d, pdA r with
    | some p, some ps => some (p :: ps)
    | _, _ => none
end
mutual
theorem dp_of {F H : Hp} (s : Same F H) : ∀ {x : V} {d : D} {p : PyData}, Rep K F x d → pd d = some p → Dp K H x p
  | _, _, _, .non, e => by
    cases e
    exact .non
  | _, _, _, .bl b, e => by
    cases e
    exact .bl b
  | _, _, _, .int i, e => by
    cases e
    exact .int i
  | _, _, _, .str z, e => by
    cases e
    exact .str z
  | _, _, _, .ty n, e => by cases e
  | _, _, _, .tup (l := l) h r, e => by
    unfold pd at e
    cases h2 : pdA l with
    | none =>
      rw [h2] at e
      cases e
    | some ps =>
      rw [h2] at e
      cases e
      exact .tup (same_t s h) (dpA_of s r h2)
  | _, _, _, .lst (l := l) h r, e => by
    unfold pd at e
    cases h2 : pdA l with
    | none =>
      rw [h2] at e
      cases e
    | some ps =>
      rw [h2] at e
      cases e
      exact .lst (SqL.of (s _ _ h)) (dpA_of s r h2)
  | _, _, _, .ins _ _, e => by cases e
  | _, _, _, .obj _, e => by cases e
  | _, _, _, .scr _, e => by cases e
  | _, _, _, .bag _, e => by cases e
theorem dpA_of {F H : Hp} (s : Same F H) : ∀ {xs : List V} {l : List D} {ps : List PyData}, RepA K F xs l → pdA l = some ps → DpAll K H xs ps
  | _, _, _, .nil, e => by
    cases e
    exact .nil
  | _, _, _, .cons (d := d) (ds := ds) h r, e => by
    unfold pdA at e
    cases h1 : pd d with
    | none =>
      rw [h1] at e
      cases e
    | some p =>
      cases h2 : pdA ds with
      | none =>
        rw [h1, h2] at e
        cases e
      | some ps =>
        rw [h1, h2] at e
        cases e
        exact .cons (dp_of s h h1) (dpA_of s r h2)
end
def okD (d : D) : Prop := match pd d with
  | some p => SeqAt.shaped p = true
  | none => False
def eqD (d e : D) : Bool := match pd d, pd e with
  | some p, some q => PyData.eqv p q
  | _, _ => false
def dEq : D → D → (D → Prop) → Prop := fun d e q => okD d ∧ okD e ∧ q (.bl (eqD d e))
def dNe : D → D → (D → Prop) → Prop := fun d e q => okD d ∧ okD e ∧ q (.bl (!eqD d e))
theorem sim_eq : Sim2 K (rEqD K) dEq := fun F H x y d e Q q s r1 r2 w k => by
  obtain ⟨w1, w2, w3⟩ := w
  unfold okD at w1 w2
  unfold eqD at w3
  cases h1 : pd d with
  | none =>
    rw [h1] at w1
    exact w1.elim
  | some p =>
    cases h2 : pd e with
    | none =>
      rw [h2] at w2
      exact w2.elim
    | some p' =>
      rw [h1] at w1 w3
      rw [h2] at w2 w3
      exact ⟨p, p', dp_of s r1 h1, dp_of s r2 h2, w1, w2, k.here s (.bl _) w3⟩
theorem sim_ne : Sim2 K (rNeD K) dNe := fun F H x y d e Q q s r1 r2 w k => by
  obtain ⟨w1, w2, w3⟩ := w
  unfold okD at w1 w2
  unfold eqD at w3
  cases h1 : pd d with
  | none =>
    rw [h1] at w1
    exact w1.elim
  | some p =>
    cases h2 : pd e with
    | none =>
      rw [h2] at w2
      exact w2.elim
    | some p' =>
      rw [h1] at w1 w3
      rw [h2] at w2 w3
      exact ⟨p, p', dp_of s r1 h1, dp_of s r2 h2, w1, w2, k.here s (.bl _) w3⟩

/-! ### subscripts, slices -/
def atD {α : Type} (xs : List α) (i : Int) : Option α := (ixN xs.length i).bind fun j => xs[j]?
theorem at_rep {F : Hp} {xs : List V} {l : List D} {i : Int} {d : D} (r : RepA K F xs l) (h : atD l i = some d) : ∃ x, atI xs i = some x ∧ Rep K F x d := by
  unfold atD at h
  unfold atI
  rw [r.len]
  cases e : ixN l.length i with
  | none =>
    rw [e] at h
    cases h
  | some j =>
    rw [e] at h
    exact r.getD h
def dIx : D → D → (D → Prop) → Prop
  | .lst l, .int i, q => match atD l i with
    | some d => q d
    | none => False
  | .tup l, .int i, q => match atD l i with
    | some d => q d
    | none => False
  | .scr l, .int i, q => match atD l i with
    | some d => q (.int d)
    | none => False
  | .str x, .int i, q => x.length ≤ sizeLine ∧ match atD x.cps.toList i with
    | some c => q (.str ⟨#[c]⟩)
    | none => False
  | _, _, _ => False
theorem sim_ix : Sim2 K (rIx K) dIx := fun F H x y d e Q q s r1 r2 w k => by
  cases r2 with
  | int i =>
    cases r1 with
    | @lst a xs l h1 a1 =>
      have w : (match atD l i with | some d => q d | none => False) := w
      cases e : atD l i with
      | none =>
        rw [e] at w
        exact w.elim
      | some d =>
        rw [e] at w
        obtain ⟨z, ez, rz⟩ := at_rep a1 e
        exact .inl ⟨a, xs, i, z, rfl, rfl, SqL.of (s _ _ h1), ez, k.here s rz w⟩
    | @tup a xs l h1 a1 =>
      have w : (match atD l i with | some d => q d | none => False) := w
      cases e : atD l i with
      | none =>
        rw [e] at w
        exact w.elim
      | some d =>
        rw [e] at w
        obtain ⟨z, ez, rz⟩ := at_rep a1 e
        exact .inr (.inl ⟨a, xs, i, z, rfl, rfl, same_t s h1, ez, k.here s rz w⟩)
    | @scr a l h1 =>
      have w : (match atD l i with | some d => q (.int d) | none => False) := w
      cases e : atD l i with
      | none =>
        rw [e] at w
        exact w.elim
      | some d =>
        rw [e] at w
        refine .inl ⟨a, _, i, .int d, rfl, rfl, s.seq h1, ?_, k.here s (.int d) w⟩
        unfold atI
        unfold atD at e
        rw [List.length_map]
        cases e2 : ixN l.length i with
        | none =>
          rw [e2] at e
          cases e
        | some j =>
          rw [e2] at e
          show (l.map V.int)[j]? = _
          rw [List.getElem?_map, show l[j]? = some d from e]
          rfl
    | str x =>
      have w2 : (match atD x.cps.toList i with | some c => q (.str ⟨#[c]⟩) | none => False) := w.2
      cases e : atD x.cps.toList i with
      | none =>
        rw [e] at w2
        exact w2.elim
      | some c =>
        rw [e] at w2
        exact .inr (.inr ⟨x, i, c, rfl, rfl, w.1, e, k.here s (.str _) w2⟩)
    | _ => exact w.elim
  | _ => cases r1 <;> exact w.elim
/-- an item of one's own list -/
def wIxL (wo : WO) (wb : WE) : WE := fun env er q => wo env er fun l => wb env er fun y => match y with
  | .int i => match atD l i with
    | some d => q d
    | none => False
  | _ => False
theorem sim_ixL {i : Nat} (hb : SimE K E tb wb) : SimE K E (tOp (rIx K) (tVar i) tb) (wIxL (wOwn i) wb) := fun B env F σ H Q er q a l w k => by
  unfold wIxL wOwn at w
  split at w
  · rename_i ls e
    obtain ⟨p, xs, ex, h1, r, h2, h3⟩ := a.sl i _ e
    refine ⟨.ref p, ex, hb B env F σ H _ er _ a l w fun y d F1 H1 s1 r1 w1 => ?_⟩
    cases r1 with
    | int j =>
      have w1 : (match atD ls j with | some d => q d | none => False) := w1
      cases e2 : atD ls j with
      | none =>
        rw [e2] at w1
        exact w1.elim
      | some z =>
        rw [e2] at w1
        obtain ⟨v, ev, rv⟩ := at_rep (r.mono s1.ff) e2
        exact .inl ⟨p, xs, j, v, rfl, rfl, SqL.of (s1.hh _ _ h1), ev, k _ _ F1 H1 s1 rv w1⟩
    | _ => exact w1.elim
  · exact w.elim
abbrev WP := EV → ER → (Option Int → Prop) → Prop
def SimP (K : PySem.W.Frag) (E : XK) (tp : TO) (w : WP) : Prop := ∀ (B : Ent) (env : EV) (F : Hp) (σ : St) (H : Hp) (Q : Option Int → Hp → Prop) (er : ER) (q : Option Int → Prop), At K B env F σ H → EL K B E er → w env er q →
  (∀ (o : Option Int) (F' H' : Hp), Stp F F' H H' → q o → Q o H') → tp σ H Q
def wNoP : WP := fun _ _ q => q none
theorem simp_no : SimP K E tNoPart wNoP := fun B env F σ H Q er q a l w k => k none F H (Stp.refl a.fh) w
def wPart (wa : WE) : WP := fun env er q => wa env er fun x => match x with
  | .int i => q (some i)
  | _ => False
theorem simp_part (h : SimE K E ta wa) : SimP K E (tPart ta) (wPart wa) := fun B env F σ H Q er q a l w k => h B env F σ H _ er _ a l w fun x d F1 H1 s1 r1 w1 => by
  cases r1 with
  | int i => exact ⟨i, rfl, k _ F1 H1 s1 w1⟩
  | _ => exact w1.elim
def cutD {α : Type} (xs : List α) (lo hi : Option Int) : List α := (xs.drop (HT.sIx xs.length 0 lo)).take (HT.sIx xs.length xs.length hi - HT.sIx xs.length 0 lo)
theorem RepA.cut {F : Hp} {v : List V} {d : List D} (h : RepA K F v d) (lo hi : Option Int) : RepA K F (cutV v lo hi) (cutD d lo hi) := by
  unfold cutV cutD
  rw [h.len]
  exact (h.drop _).take _
theorem cut_whole {α : Type} {xs : List α} {lo hi : Option Int} (h : HT.sIx xs.length 0 lo = 0 ∧ HT.sIx xs.length xs.length hi = xs.length) : cutD xs lo hi = xs := by
  unfold cutD
  rw [h.1, h.2, List.drop_zero, Nat.sub_zero, List.take_length]
def rSlD (K : PySem.W.Frag) : V → Option Int → Option Int → Hp → VK → Prop := fun x lo hi H Q => rSlL K x lo hi H Q ∨ rSlA K x lo hi H Q ∨ rSlS x lo hi H Q
theorem sl_D : SlR X (rSlD X.K) := SlR.or sl_list (SlR.or sl_tupA sl_str)
def dSl : D → Option Int → Option Int → (D → Prop) → Prop
  | .lst l, lo, hi, q => q (.lst (cutD l lo hi))
  | .scr l, lo, hi, q => q (.lst ((cutD l lo hi).map .int))
  | .tup l, lo, hi, q => q (.tup (cutD l lo hi))
  | .str x, lo, hi, q => x.length ≤ sizeLine ∧ q (.str (cutS x lo hi))
  | _, _, _, _ => False
def wSl (we : WE) (wl wh : WP) : WE := fun env er q => we env er fun x => wl env er fun lo => wh env er fun hi => dSl x lo hi q
theorem cut_map (ns : List Int) (lo hi : Option Int) : cutV (ns.map V.int) lo hi = (cutD ns lo hi).map V.int := by
  unfold cutV cutD
  rw [List.length_map, List.map_take, List.map_drop]
theorem sim_sl {tl th : TO} {wl wh : WP} (h : SimE K E te we) (hl : SimP K E tl wl) (hh : SimP K E th wh) : SimE K E (tSl (rSlD K) te tl th) (wSl we wl wh) := fun B env F σ H Q er q a l w k =>
  h B env F σ H _ er _ a l w fun x d F1 H1 s1 r1 w1 => hl B env F1 σ H1 _ er _ (a.step s1) l w1 fun lo F2 H2 s2 w2 => hh B env F2 σ H2 _ er _ (a.step (s1.trans s2)) l w2 fun hi F3 H3 s3 w3 => by
    have k3 := k.step ((s1.trans s2).trans s3)
    have r3 := (r1.mono s2.ff).mono s3.ff
    cases r3 with
    | lst h1 a1 => exact .inl ⟨_, _, rfl, SqL.of (s3.fh _ _ h1), fun p hp => k3 _ _ _ _ (Stp.new s3.fh hp) (.lst upd_same ((a1.cut lo hi).mono (same_new (s3.fh.free hp)))) w3⟩
    | scr h1 => exact .inl ⟨_, _, rfl, s3.fh.seq h1, fun p hp => k3 _ _ _ _ (Stp.new s3.fh hp) (.lst upd_same (by rw [cut_map]; exact RepA.ints _)) w3⟩
    | @tup a xs l h1 a1 =>
      refine .inr (.inl ⟨_, _, rfl, same_t s3.fh h1, fun e => ?_, fun _ p hp => ?_⟩)
      · rw [a1.len] at e
        have e2 : cutD l lo hi = l := cut_whole e
        have w4 : q (.tup (cutD l lo hi)) := w3
        rw [e2] at w4
        exact k3.here s3.fh (.tup h1 a1) w4
      · exact k3 _ _ _ _ (Stp.new s3.fh hp) (.tup (.inl (.inl upd_same)) ((a1.cut lo hi).mono (same_new (s3.fh.free hp)))) w3
    | str x => exact .inr (.inr ⟨x, rfl, w3.1, k3.here s3.fh (.str _) w3.2⟩)
    | _ => exact w3.elim
/-- xs[a:b] of one's own list, a new list -/
def wSlO (wo : WO) (wl wh : WP) : WO := fun env er q => wo env er fun x => wl env er fun lo => wh env er fun hi => q (cutD x lo hi)
theorem simo_slOwn {i : Nat} {tl th : TO} {wl wh : WP} (hl : SimP K E tl wl) (hh : SimP K E th wh) : SimO K E (tSl (rSlD K) (tVar i) tl th) (wSlO (wOwn i) wl wh) := fun B env F σ H Q er q a l w k => by
  unfold wSlO wOwn at w
  split at w
  · rename_i ls e
    obtain ⟨p, xs, ex, h1, r, h2, h3⟩ := a.sl i _ e
    refine ⟨.ref p, ex, hl B env F σ H _ er _ a l w fun lo F2 H2 s2 w2 => hh B env F2 σ H2 _ er _ (a.step s2) l w2 fun hi F3 H3 s3 w3 => ?_⟩
    have s := s2.trans s3
    exact .inl ⟨p, xs, rfl, SqL.of (s.hh _ _ h1), fun p2 hp => k p2 _ _ F3 _ (s.trans (Stp.fresh s.fh hp)) (s.hh.free hp) upd_same (s.fh.free hp) ((RepA.mono s.ff r).cut lo hi) w3⟩
  · exact w.elim
/-- xs[::-1] -/
def wRev (we : WE) : WE := fun env er q => we env er fun x => match x with
  | .lst l => q (.lst l.reverse)
  | _ => False
theorem sim_revL (h : SimE K E te we) : SimE K E (tRevL K te) (wRev we) := fun B env F σ H Q er q a l w k =>
  h B env F σ H _ er _ a l w fun x d F1 H1 s1 r1 w1 => by
    cases r1 with
    | lst h1 a1 => exact ⟨_, _, rfl, SqL.of (s1.fh _ _ h1), fun p hp => k _ _ _ _ (s1.trans (Stp.new s1.fh hp)) (.lst upd_same (a1.rev.mono (same_new (s1.fh.free hp)))) w1⟩
    | _ => exact w1.elim

/-! ### built-ins -/
abbrev rLenD (K : PySem.W.Frag) : List V → Hp → VK → Prop := fun xs H Q => ∃ x n, xs = [x] ∧ LenV K x H n ∧ Q (.int n) H
def dLen : List D → (D → Prop) → Prop
  | [.lst l], q => q (.int (l.length : Nat))
  | [.tup l], q => q (.int (l.length : Nat))
  | [.scr l], q => q (.int (l.length : Nat))
  | [.str x], q => x.length ≤ sizeLine ∧ q (.int (x.length : Nat))
  | _, _ => False
theorem sim_len : SimC K (rLenD K) dLen := fun F H xs ds Q q s r w k => by
  cases r with
  | nil => exact w.elim
  | cons r1 r2 =>
    cases r2 with
    | cons _ _ => cases r1 <;> exact w.elim
    | nil =>
      cases r1 with
      | lst h1 a1 => exact ⟨_, _, rfl, .inl ⟨_, SqL.of (s _ _ h1), a1.len.symm⟩, k.here s (.int _) w⟩
      | tup h1 a1 => exact ⟨_, _, rfl, .inr ⟨_, same_t s h1, a1.len.symm⟩, k.here s (.int _) w⟩
      | scr h1 => exact ⟨_, _, rfl, .inl ⟨_, s.seq h1, by rw [List.length_map]⟩, k.here s (.int _) w⟩
      | str x => exact ⟨_, _, rfl, ⟨w.1, rfl⟩, k.here s (.int _) w.2⟩
      | _ => exact w.elim
def lLen : List D → (D → Prop) → Prop := fun l q => q (.int (l.length : Nat))
theorem sim_lenL : SimCL K (rLenD K) lLen := fun F H a xs l Q q s h r w k => ⟨_, _, rfl, .inl ⟨xs, h, r.len.symm⟩, k.here s (.int _) w⟩
def bools : List D → Option (List Bool)
  | [] => some []
  | .bl b :: r => (bools r).map (b :: ·)
  | _ => none
theorem bools_rep {F : Hp} : ∀ {xs : List V} {l : List D} {bs : List Bool}, RepA K F xs l → bools l = some bs → xs = bs.map V.bl
  | _, [], _, .nil, e => by
    cases e
    rfl
  | _, d :: l, bs, .cons h r, e => by
    cases h with
    | bl b =>
      unfold bools at e
      cases h2 : bools l with
      | none =>
        rw [h2] at e
        cases e
      | some cs =>
        rw [h2] at e
        cases e
        rw [bools_rep r h2]
        rfl
    | _ => cases e
def lAll : List D → (D → Prop) → Prop := fun l q => match bools l with
  | some bs => q (.bl (bs.all id))
  | none => False
theorem sim_allL : SimCL K (rAll K) lAll := fun F H a xs l Q q s h r w k => by
  unfold lAll at w
  split at w
  · rename_i bs e
    rw [bools_rep r e] at h
    exact ⟨a, bs, rfl, h, k.here s (.bl _) w⟩
  · exact w.elim
def lAny : List D → (D → Prop) → Prop := fun l q => match bools l with
  | some bs => q (.bl (bs.any id))
  | none => False
theorem sim_anyL : SimCL K (rAny K) lAny := fun F H a xs l Q q s h r w k => by
  unfold lAny at w
  split at w
  · rename_i bs e
    rw [bools_rep r e] at h
    exact ⟨a, bs, rfl, h, k.here s (.bl _) w⟩
  · exact w.elim
/-- tuple(xs) -/
abbrev rTupD (K : PySem.W.Frag) : List V → Hp → VK → Prop := fun xs H Q => ∃ p ys, xs = [.ref p] ∧ ((SqL K H p ys ∧ ∀ l, H l = none → Q (.ref l) (upd H l (.tup ys))) ∨ (SqT K H p ys ∧ Q (.ref p) H))
def lTup : List D → (D → Prop) → Prop := fun l q => q (.tup l)
theorem sim_tupL : SimCL K (rTupD K) lTup := fun F H a xs l Q q s h r w k => ⟨a, xs, rfl, .inl ⟨h, fun p hp => k _ _ _ _ (Stp.new s hp) (.tup (.inl (.inl upd_same)) (r.mono (same_new (s.free hp)))) w⟩⟩
abbrev rIntD : List V → Hp → VK → Prop := fun xs H Q => (∃ i, xs = [.int i] ∧ Q (.int i) H) ∨ ∃ k, xs = [.bl k] ∧ Q (.int (if k then 1 else 0)) H
def dInt : List D → (D → Prop) → Prop
  | [.int i], q => q (.int i)
  | _, _ => False
theorem sim_toInt : SimC K rIntD dInt := fun F H xs ds Q q s r w k => by
  unfold dInt at w
  split at w
  · cases r with
    | cons r1 r2 =>
      cases r1
      cases r2
      exact .inl ⟨_, rfl, k.here s (.int _) w⟩
  · exact w.elim
abbrev rAbsD : List V → Hp → VK → Prop := fun xs H Q => ∃ i, xs = [.int i] ∧ Q (.int (if i < 0 then -i else i)) H
def dAbs : List D → (D → Prop) → Prop
  | [.int i], q => q (.int (if i < 0 then -i else i))
  | _, _ => False
theorem sim_abs : SimC K rAbsD dAbs := fun F H xs ds Q q s r w k => by
  unfold dAbs at w
  split at w
  · cases r with
    | cons r1 r2 =>
      cases r1
      cases r2
      exact ⟨_, rfl, k.here s (.int _) w⟩
  · exact w.elim
abbrev rMax2D : List V → Hp → VK → Prop := fun xs H Q => ∃ i j, xs = [.int i, .int j] ∧ Q (.int (if j > i then j else i)) H
def dMax2 : List D → (D → Prop) → Prop
  | [.int i, .int j], q => q (.int (if j > i then j else i))
  | _, _ => False
theorem sim_max2 : SimC K rMax2D dMax2 := fun F H xs ds Q q s r w k => by
  unfold dMax2 at w
  split at w
  · cases r with
    | cons r1 r2 =>
      cases r1
      cases r2 with
      | cons r2 r3 =>
        cases r2
        cases r3
        exact ⟨_, _, rfl, k.here s (.int _) w⟩
  · exact w.elim
abbrev rMin2D : List V → Hp → VK → Prop := fun xs H Q => ∃ i j, xs = [.int i, .int j] ∧ Q (.int (if j < i then j else i)) H
def dMin2 : List D → (D → Prop) → Prop
  | [.int i, .int j], q => q (.int (if j < i then j else i))
  | _, _ => False
theorem sim_min2 : SimC K rMin2D dMin2 := fun F H xs ds Q q s r w k => by
  unfold dMin2 at w
  split at w
  · cases r with
    | cons r1 r2 =>
      cases r1
      cases r2 with
      | cons r2 r3 =>
        cases r2
        cases r3
        exact ⟨_, _, rfl, k.here s (.int _) w⟩
  · exact w.elim

/-! ### isinstance -/
structure OwnC (K : PySem.W.Frag) (C : Addr) : Prop where
  cl : Cls K C
  ha : PySem.W.findIn K (.ref C) "__class__" = some (some (.builtin "object.__class__"))
  hn : PySem.W.specialIn K (.builtin "object.__class__") "__get__" = some (some (.builtin "getset_descriptor.__get__"))
  htk : PySem.W.takesIn K (.builtin "object.__class__") = some true
  hm : PySem.W.mroIn K C (.type "object") = some true
def tyD : D → Value
  | .non => .type "NoneType"
  | .bl _ => .type "bool"
  | .int _ => .type "int"
  | .str _ => .type "str"
  | .tup _ => .type "tuple"
  | .lst _ => .type "list"
  | .scr _ => .none
  | .ins C _ => .ref C
  | _ => .none
def OkTy (K : PySem.W.Frag) : D → Prop
  | .ins C _ => OwnC K C
  | .ty _ => False
  | .obj _ => False
  | .bag _ => False
  | .scr _ => False
  | _ => True
theorem tyx_of {F H : Hp} {x : V} {d : D} (s : Same F H) (r : Rep K F x d) (ok : OkTy K d) : TyX K H x (tyD d) := by
  cases r with
  | non => exact .base .non
  | bl b => exact .base (.bl b)
  | int i => exact .base (.int i)
  | str z => exact .base (.str z)
  | tup h _ =>
    rcases same_t s h with (h | ⟨o, h⟩) | ⟨o, its, n, h, hc, _⟩
    · exact .base (.tup h)
    · exact .fTuple h
    · exact .kTuple h hc
  | lst h _ => exact .base (.lst (s _ _ h))
  | ins h _ =>
    have ok : OwnC K _ := ok
    exact .base (.ins (s _ _ h) ok.cl ok.ha ok.hn ok.htk ok.hm)
  | _ => exact ok.elim
def dIsi (K : PySem.W.Frag) : List D → (D → Prop) → Prop
  | [x, .ty T], q => OkTy K x ∧ ∃ b, PySem.W.kitOne K (tyD x) (.type T) = some b ∧ q (.bl b)
  | [x, .obj C], q => OkTy K x ∧ ∃ b, PySem.W.kitOne K (tyD x) (.ref C) = some b ∧ q (.bl b)
  | _, _ => False
theorem sim_isi : SimC K (rIsi K) (dIsi K) := fun F H xs ds Q q s r w k => by
  unfold dIsi at w
  split at w
  · cases r with
    | cons r1 r2 =>
      cases r2 with
      | cons r2 r3 =>
        cases r2
        cases r3
        obtain ⟨ok, b, e, w⟩ := w
        exact ⟨_, _, _, _, b, rfl, .ty _, tyx_of s r1 ok, e, k.here s (.bl b) w⟩
  · cases r with
    | cons r1 r2 =>
      cases r2 with
      | cons r2 r3 =>
        cases r2
        cases r3
        obtain ⟨ok, b, e, w⟩ := w
        exact ⟨_, _, _, _, b, rfl, .own _, tyx_of s r1 ok, e, k.here s (.bl b) w⟩
  · exact w.elim
end

/-! ### a def keeps its promise -/
open PySem.Spec PyProof.Rows
def envOf (n : Nat) (ds : List D) : EV := ds.map .d ++ List.replicate (n - ds.length) .un
theorem start_at {K : PySem.W.Frag} {N : List Str} {F H : Hp} {vs : List V} {ds : List D} (s : Same F H) (r : RepA K F vs ds) (hl : ds.length ≤ N.length) : At K ⟨F, H⟩ (envOf N.length ds) F (L2.start N vs) H := by
  have hlen := r.len
  refine ⟨?_, Stp.refl s, fun i sv e => ?_, fun i j t u b e1 e2 m1 _ _ _ => ?_⟩
  · unfold L2.start envOf
    rw [List.length_append, List.length_append, List.length_map, List.length_map, List.length_replicate, List.length_replicate, hlen]
  · unfold envOf at e
    by_cases hi : i < ds.length
    · rw [List.getElem?_append_left (by rw [List.length_map]; exact hi), List.getElem?_map] at e
      cases e2 : ds[i]? with
      | none =>
        rw [e2] at e
        cases e
      | some d =>
        rw [e2] at e
        cases e
        obtain ⟨x, hx, rx⟩ := r.getD e2
        refine ⟨x, ?_, rx⟩
        unfold L2.start
        rw [List.getElem?_append_left (by rw [List.length_map, hlen]; exact hi), List.getElem?_map, hx]
        rfl
    · rw [List.getElem?_append_right (by rw [List.length_map]; omega)] at e
      have z := List.mem_replicate.mp (List.mem_of_getElem? e)
      rw [z.2]
      trivial
  · exfalso
    unfold envOf at e1
    have z := List.mem_of_getElem? e1
    rcases List.mem_append.mp z with z | z
    · obtain ⟨d, _, rfl⟩ := List.mem_map.mp z
      exact m1
    · rw [(List.mem_replicate.mp z).2] at m1
      exact m1
theorem body_of {K : PySem.W.Frag} {N : List Str} {n : Nat} {S : FS} {t : TS} {w : WS} {vs : List V} {H : Hp} {Q : VK} {E : XK} (ht : SimS K E t w) (hn : n ≤ N.length)
    (hw : ∀ ds er q, ds.length = n → S ds er q → w { nx := fun _ => q .non, rt := q, er := er } (envOf N.length ds)) (h : spOf K n S vs H Q E) : t { nx := fun _ H' => Q .non H', rt := Q } (L2.start N vs) H := by
  obtain ⟨F, ds, er, q, hl, s, r, hS, kv, ke⟩ := h
  exact ht ⟨F, H⟩ _ _ ⟨fun env F' σ H' a z => kv _ _ F' H' a.st .non z, fun x d F' H' st r z => kv x d F' H' st r z, fun _ _ _ _ _ z => False.elim z, fun _ _ _ _ _ z => False.elim z, ke⟩ _ F _ H (start_at s r (by omega)) (hw ds er q hl hS)
section
variable {P : Program} {w : World} {K : PySem.W.Frag} {mg : Str → Option Value} {base : Heap}
theorem ok_def {x qual : Str} {st : Stmt} {f : Addr} {fd : FuncData} {N ps : List Str} {k : Nat} {S : FS} (F : Fun K x qual st f fd) (sc : FnScope N ps (defScope st)) (hn : ps.length ≤ N.length)
    (hb : ∀ (cdv : Value) (A : Around) (outer : List Env) (s : Shared) (H : Hp) (E : XK), Room k (A.deeper (envOfC qual (defScope st) s.heap.objs.size f cdv)) →
      ∃ t ws, PSs (cxOf (L2.CX P w) P w K mg base N qual (defScope st) f cdv A outer s H E) (defBody st) t ∧ SimS K E t ws ∧
        ∀ ds er q, ds.length = ps.length → S ds er q → ws { nx := fun _ => q .non, rt := q, er := er } (envOf N.length ds)) :
    FnOk P w K mg base (L2.CX P w) (k + 1) f fd ps (spOf K ps.length S) := by
  refine F.okX sc (fun vs H Q E h => spOf_len h) (fun cdv A outer s H vs Q E hr h => ?_)
  obtain ⟨t, ws, h1, h2, h3⟩ := hb cdv A outer s H E hr
  exact ⟨t, h1, body_of h2 hn h3 h⟩
theorem ok_defD {x qual : Str} {st : Stmt} {dvs : List V} {kws : List (Str × V)} {f : Addr} {fd : FuncData} {N ps : List Str} {k : Nat} {S : FS} (F : FunD K x qual (defArgs st) (defBody st) (defScope st) dvs kws f fd) (sc : FnScope N ps (defScope st)) (hn : ps.length ≤ N.length)
    (hb : ∀ (cdv : Value) (A : Around) (outer : List Env) (s : Shared) (H : Hp) (E : XK), Room k (A.deeper (envOfC qual (defScope st) s.heap.objs.size f cdv)) →
      ∃ t ws, PSs (cxOf (L2.CX P w) P w K mg base N qual (defScope st) f cdv A outer s H E) (defBody st) t ∧ SimS K E t ws ∧
        ∀ ds er q, ds.length = ps.length → S ds er q → ws { nx := fun _ => q .non, rt := q, er := er } (envOf N.length ds)) :
    FnOk P w K mg base (L2.CX P w) (k + 1) f fd ps (spOf K ps.length S) := by
  refine F.ok sc (fun vs H Q E h => spOf_len h) (fun cdv A outer s H vs Q E hr h => ?_)
  obtain ⟨t, ws, h1, h2, h3⟩ := hb cdv A outer s H E hr
  exact ⟨t, h1, body_of h2 hn h3 h⟩
end
end DL
/-! DLX: rules of my own over HandS: t[::-1] of a tuple, tuple * int, methods called with keywords, == and != by an own __eq__. -/
namespace HT
open PySem PySem.Spec PyProof.Rows
section
variable {prog : Program} {w : World} {A : Around} {E : Value → Shared → Prop} {s : Shared}
theorem rev_places (n : Nat) : Builtin.Slice.slicePlaces ((n : Int) - 1) (-1) (-1) = n := by
  unfold Builtin.Slice.slicePlaces
  rw [if_neg (by decide)]
  by_cases h : n = 0
  · subst h
    rfl
  · rw [if_pos (by omega)]
    have e : (((n : Int) - 1 - (-1) - 1) / (- (-1)) + 1) = (n : Int) := by
      rw [show (- (-1) : Int) = 1 by rfl, Int.ediv_one]
      omega
    rw [e]
    omega
theorem filterMap_same {α β : Type} {f g : α → Option β} : ∀ {l : List α}, (∀ m ∈ l, f m = g m) → l.filterMap f = l.filterMap g
  | [], _ => rfl
  | a :: l, h => by
    rw [List.filterMap_cons, List.filterMap_cons, h a List.mem_cons_self, filterMap_same fun m hm => h m (List.mem_cons_of_mem _ hm)]
theorem rev_pick (xs : Array Value) : ((List.range xs.size).filterMap fun (m : Nat) => xs[(((xs.size : Int) - 1) + (m : Int) * (-1)).toNat]?).toArray = xs.toList.reverse.toArray := by
  congr 1
  apply List.ext_getElem?
  intro i
  have e : ∀ (l : List Nat) , (∀ m ∈ l, m < xs.size) → l.filterMap (fun (m : Nat) => xs[(((xs.size : Int) - 1) + (m : Int) * (-1)).toNat]?) = l.filterMap (fun m => xs.toList.reverse[m]?) := by
    intro l hl
    apply filterMap_same
    intro m hm
    have := hl m hm
    have e1 : (((xs.size : Int) - 1) + (m : Int) * (-1)).toNat = xs.size - 1 - m := by omega
    rw [e1, List.getElem?_reverse (by rw [Array.length_toList]; exact this), Array.length_toList, Array.getElem?_toList]
  rw [e _ (fun m hm => List.mem_range.mp hm)]
  have e2 : ∀ (l : List Value), (List.range l.length).filterMap (fun m => l[m]?) = l := by
    intro l
    have := PySem.W.krv_all l.toArray
    simpa using this
  have e3 := e2 xs.toList.reverse
  rw [List.length_reverse, Array.length_toList] at e3
  rw [e3]
theorem getItem_tuple_rev {t sl : Addr} {items : Array Value} {vs : Value} {Q : Value → Shared → Prop} (ht : IsTup s.heap t items) (hs : s.heap.IsSliceOf sl .none .none vs) (pv : IsPart vs (some (-1)))
    (h : Q (.ref s.heap.objs.size) { s with heap := s.heap.push { cls := .type "tuple", data := .seq items.toList.reverse.toArray } })
    (hsz : items.size ≤ sizeLine) : wpAny (model prog w) A (getItem (.ref t) (.ref sl)) Q E s := by
  have htake : sizeOk (.seq items.toList.reverse.toArray) := by
    show items.toList.reverse.toArray.size ≤ sizeLine
    rw [List.size_toArray, List.length_reverse, Array.length_toList]
    exact hsz
  obtain ⟨os, hos, hcs, hds⟩ := id hs
  have hTs : s.TypeIs (.ref sl) "slice" := ⟨os, hos, hcs⟩
  unfold getItem
  try with_reducible refine wpAny_holding ?_
  first | refine wpAny_bind (wpAny_pure ?_) | skip
  refine wpAny_bind (wpAny_sequenceKey ht.typeIs (by decide) ?_)
  refine wpAny_bind (wpAny_callSpecial?_slot (name := Str.ofString "__getitem__") ht.typeIs PyProof.Rows.slot_tuple_getitem
    (wpAny_call_entry PyProof.Rows.slot_tuple_getitem ht.typeIs PyProof.Rows.entry_tuple_getitem ?_ (PyProof.Rows.args_tuple_getitem _ _)))
  show wpAny _ _ (Builtin.Tuple.tupleItemsOf (.ref t) >>= _) _ _ s
  refine wpAny_bind (PyProof.Rows.tupleItemsOf_ ht ?_)
  refine wpAny_bind (wpAny_typeOf hTs ?_)
  rw [if_pos (by decide)]
  have happ : ∀ {Q2 : Int × Int × Nat → Shared → Prop} {A2 : Around} {E2 : Value → Shared → Prop}, Q2 ((items.size : Int) - 1, -1, items.size) s → wpAny (model prog w) A2 (Builtin.Slice.sliceApplied (.ref sl) (pure ((items.size : Nat) : Int))) Q2 E2 s := by
    intro Q2 A2 E2 hq
    unfold Builtin.Slice.sliceApplied Builtin.Slice.sliceFields
    refine wpAny_bind (wpAny_bind (wpAny_field hos hds (x := .none) rfl (wpAny_bind (wpAny_field hos hds (x := .none) rfl (wpAny_bind (wpAny_field hos hds (x := vs) rfl (wpAny_pure ?_)))))))
    refine wpAny_bind (slicePart_ pv ?_)
    show wpAny _ _ (if ((-1 : Int) == 0) = true then _ else _) _ _ s
    rw [if_neg (by decide)]
    refine wpAny_bind (slicePart_ .none (wpAny_bind (slicePart_ .none (wpAny_bind (wpAny_pure ?_)))))
    show wpAny _ _ (match Builtin.Slice.sliceAdjust none none (-1) ((items.size : Nat) : Int) with | (lo, hi) => pure (lo, (-1 : Int), Builtin.Slice.slicePlaces lo hi (-1))) _ _ s
    have ha : Builtin.Slice.sliceAdjust none none (-1) ((items.size : Nat) : Int) = ((items.size : Int) - 1, -1) := rfl
    rw [ha]
    show wpAny _ _ (pure ((items.size : Int) - 1, (-1 : Int), Builtin.Slice.slicePlaces ((items.size : Int) - 1) (-1) (-1))) _ _ s
    rw [rev_places]
    exact wpAny_pure hq
  refine wpAny_bind (happ ?_)
  show wpAny _ _ (if (((items.size : Int) - 1) == 0 && (-1 : Int) == 1 && items.size == items.size) = true then _ else _) _ _ s
  rw [if_neg (by intro q; rw [Bool.and_eq_true, Bool.and_eq_true] at q; exact absurd q.1.2 (by decide)), rev_pick]
  first
    | exact wpAny_bind (m := Builtin.Tuple.tupleExact _) (wpAny_newObj_type (wpAny_pure ⟨_, rfl, wpAny_pure h⟩) htake)
    | exact wpAny_bind (m := Builtin.Tuple.tupleExact _) (wpAny_newObj_type (wpAny_bind (wpAny_pure (wpAny_pure ⟨_, rfl, wpAny_pure h⟩))) htake)
    | exact wpAny_bind (wpAny_bind (m := Builtin.Tuple.tupleExact _) (wpAny_newObj_type (wpAny_pure (wpAny_pure ⟨_, rfl, wpAny_pure h⟩)) htake))
    | exact wpAny_bind (wpAny_bind (m := Builtin.Tuple.tupleExact _) (wpAny_newObj_type (wpAny_pure ⟨_, rfl, wpAny_pure h⟩) htake))
end
end HT
namespace DL
open PySem L2
open PySem.Spec PyProof.Rows
/-! ### t[::-1] -/
def tRevT (K : PySem.W.Frag) (te : TE) : TE := fun σ H Q => te σ H fun x H1 => ∃ a xs, x = .ref a ∧ SqT K H1 a xs ∧ ∀ p, H1 p = none → Q (.ref p) (upd H1 p (.tup xs.reverse))
theorem pe_revT {X : Cx} {e : Expr} {te : TE} {k : Nat} {p1 p2 p3 pos : Pos} (he : PE X e te) : PE X (.Subscript e (.Slice none none (some (.UnaryOp .USub (.Constant (.int 1) k p1) p2)) p3) pos) (tRevT X.K te) := by
  refine ⟨fun pins s σ H Q I h => ?_⟩
  refine Subscript_ (thn (he.run pins s σ H _ I h) fun v s1 ⟨x, H1, I1, r1, q1⟩ => ?_)
  obtain ⟨a, xs, ex, hx, q⟩ := q1
  subst ex
  cases r1
  have hst : PO X (some (.UnaryOp .USub (.Constant (.int 1) k p1) p2)) (tPart (tUn (rU fun i => .int (-i)) (tC (.int 1)))) := po_some (pe_un un_neg pe_int)
  refine wpAny_Slice (thn (po_none.run pins s1 σ H1 (fun o H2 => o = none ∧ H2 = H1) I1 ⟨rfl, rfl⟩) fun vl s2 ⟨l, H2, I2, pl, el, e2⟩ => ?_)
  subst el e2
  refine thn (po_none.run pins s2 σ H2 (fun o H3 => o = none ∧ H3 = H2) I2 ⟨rfl, rfl⟩) fun vu s3 ⟨u, H3, I3, pu, eu, e3⟩ => ?_
  subst eu e3
  refine thn (hst.run pins s3 σ H3 (fun o H4 => o = some (-1) ∧ H4 = H3) I3 ⟨1, rfl, -1, rfl, rfl, rfl⟩) fun vs s4 ⟨o, H4, I4, ps, eo, e4⟩ => ?_
  subst eo e4
  cases pl
  cases pu
  have I5 : Inv X pins σ H4 { s4 with heap := s4.heap.push { cls := .type "slice", data := .fields #[.none, .none, vs] } } := I4.kept (t' := s4.toks) fun b ob q => Heap.get?_push_of_some _ q
  obtain ⟨its, r, ht, hz⟩ := I5.tuple hx
  have hlen := r.length
  show wpAny (model X.prog X.w) X.A (subscriptTail e (.Slice none none (some (.UnaryOp .USub (.Constant (.int 1) k p1) p2)) p3) (.ref a) (.ref s4.heap.objs.size)) (EP X pins σ Q) X.xe { s4 with heap := s4.heap.push { cls := .type "slice", data := .fields #[.none, .none, vs] } }
  refine tail_any (ops := [.ref a, .ref s4.heap.objs.size]) ht.typeIs (PyProof.Rows.slot_tuple_getitem.lookup) ?_ (by with_unfolding_all rfl)
  refine HT.getItem_tuple_rev ht (Heap.IsSliceOf.new _ .none .none vs) ps ?_ (by rw [List.size_toArray]; omega)
  refine ⟨.ref _, _, I5.laid (t' := s4.toks) (o := .tup xs.reverse) (fun b ob q => Heap.get?_push_of_some _ q) (Nat.le_refl _) ?_, rfl, q _ (I5.hok.fresh (Nat.le_refl _))⟩
  exact ⟨by rw [List.length_reverse]; exact hz, _, r.reverse, IsTup.new _ _⟩
def wRevT (we : WE) : WE := fun env er q => we env er fun x => match x with
  | .tup l => q (.tup l.reverse)
  | _ => False
theorem sim_revT {K : PySem.W.Frag} {E : XK} {te : TE} {we : WE} (h : SimE K E te we) : SimE K E (tRevT K te) (wRevT we) := fun B env F σ H Q er q a l w k =>
  h B env F σ H _ er _ a l w fun x d F1 H1 s1 r1 w1 => by
    cases r1 with
    | tup h1 a1 => exact ⟨_, _, rfl, same_t s1.fh h1, fun p hp => k _ _ _ _ (s1.trans (Stp.new s1.fh hp)) (.tup (.inl (.inl upd_same)) (a1.rev.mono (same_new (s1.fh.free hp)))) w1⟩
    | _ => exact w1.elim

/-! ### tuple * int, from 0 to 1000 -/
def rRepD (K : PySem.W.Frag) : R2 := fun x y H Q => ∃ l k xs, x = .ref l ∧ y = .int k ∧ SqT K H l xs ∧ xs ≠ [] ∧ 0 ≤ k ∧ k ≤ 1000 ∧ xs.length ≤ 1000 ∧
  (k = 1 → Q (.ref l) H) ∧ (k ≠ 1 → ∀ p, H p = none → Q (.ref p) (upd H p (.tup (List.replicate k.toNat xs).flatten)))
theorem tuple_mul1 (l : Addr) (items : Array Value) (n : Nat) (sl : Array (Option Value)) (u : Tok) :
    Meets (Builtin.«tuple.__mul__» ⟨[.ref l, .int 1 u], []⟩) (fun _ R s => ∃ dd, s.heap.get? l = some { cls := .type "tuple", dict := dd, data := .seq items n, slots := sl } ∧ R (.ok (.ret (Value.ref l))) s) :=
  .of_wp fun prog w A R s h => by
    obtain ⟨hp, g, d, tk, os⟩ := s
    obtain ⟨dd, hl, h⟩ := h
    have f1 := AutoSeq1.idx_int
    wp_walk using AutoSeq1.wpAny_loadPart' hl
    exact ⟨_, rfl, h⟩
theorem tuple_mul0 (l : Addr) (items : Array Value) (n : Nat) (dd : Option Addr) (sl : Array (Option Value)) (u : Tok) (c0 : items.isEmpty = false) :
    Meets (Builtin.«tuple.__mul__» ⟨[.ref l, .int 0 u], []⟩) (fun _ R s => s.heap.get? l = some { cls := .type "tuple", dict := dd, data := .seq items n, slots := sl } ∧ R (.ok (.ret (Value.ref s.heap.objs.size))) { s with heap := s.heap.push { cls := Value.type "tuple", data := Data.seq #[] }, toks := s.toks }) :=
  .of_wp fun prog w A R s h => by
    obtain ⟨hp, g, d, tk, os⟩ := s
    obtain ⟨hl, h⟩ := h
    have f1 := AutoSeq1.idx_int
    have c1 : (items.isEmpty || (0 : Int) == 1) = false := by
      rw [c0]
      rfl
    wp_walk using AutoSeq1.wpAny_loadPart' hl
    repeat (first
      | (refine wpAny_ite_false (decide_eq_false (by rw [c1]; exact Bool.false_ne_true)) ?_; wp_walk using AutoSeq1.wpAny_loadPart' hl))
    exact ⟨_, rfl, h⟩
section
variable {X : Cx}
theorem op_repD : OpR X (binaryOp .Mult) (rRepD X.K) := by
  intro pins s σ H x y v u Q I rx ry h
  obtain ⟨l, k, xs, rfl, rfl, hT, hne, h1, h2, hz, qa, qb⟩ := h
  by_cases k2 : 2 ≤ k
  · exact op_repT pins s σ H _ _ v u Q I rx ry ⟨l, k, xs, rfl, rfl, hT, hne, k2, h2, hz, qb (by omega)⟩
  · cases rx
    obtain ⟨t, rfl⟩ := ry
    obtain ⟨its, r, ⟨⟨cls, dd, data, sl⟩, ho, hc, n, hd⟩, hs⟩ := I.tuple hT
    simp only at hc hd
    subst hc hd
    have hle : its.length = xs.length := r.length.symm
    have hn : its ≠ [] := fun e => hne (by
      rw [e] at hle
      exact List.eq_nil_of_length_eq_zero hle.symm)
    have hi : its.toArray.isEmpty = false := by
      cases its with
      | nil => exact absurd rfl hn
      | cons a b => rfl
    refine wpAny_binaryOp_repeat_ref (T := "tuple") (U := "int") (by decide) ⟨_, ho, rfl⟩ (fun s' => typeIs_int s' k t) noFill_tuple_mul F.fills_int_mul F.slot_int_rmul repeat_tuple F.slot_int_index.lookup
      (call_meets F.slot_int_rmul (typeIs_int s k t) F.entry_int_rmul (F.args_int_rmul_2 _ _) (int_rmul_tuple k t l its.toArray n dd sl) ⟨ho, rfl, ⟨_, ho, rfl⟩, ?_⟩)
    by_cases k1 : k = 1
    · subst k1
      exact call_meets F.slot_tuple_mul ⟨_, ho, rfl⟩ F.entry_tuple_mul (F.args_tuple_mul_2 _ _) (tuple_mul1 l its.toArray n sl t) ⟨dd, ho, ⟨.ref l, H, I, rfl, qa rfl⟩⟩
    · have k0 : k = 0 := by omega
      subst k0
      refine call_meets F.slot_tuple_mul ⟨_, ho, rfl⟩ F.entry_tuple_mul (F.args_tuple_mul_2 _ _) (tuple_mul0 l its.toArray n dd sl t hi) ⟨ho, ?_⟩
      refine ⟨.ref s.heap.objs.size, _, I.laid (t' := s.toks) (o := .tup []) (fun b ob q => Heap.get?_push_of_some _ q) (Nat.le_refl _) ?_, rfl, qb (by decide) _ (I.hok.fresh (Nat.le_refl _))⟩
      exact ⟨Nat.zero_le _, [], .nil, IsTup.new _ _⟩
end
def rMulT (K : PySem.W.Frag) : R2 := fun x y H Q => rMulD x y H Q ∨ rRepD K x y H Q
theorem op_mulT {X : Cx} : OpR X (binaryOp .Mult) (rMulT X.K) := OpR.or op_mulD op_repD
def dMulT : D → D → (D → Prop) → Prop
  | .tup l, .int k, q => (l ≠ [] ∧ 0 ≤ k ∧ k ≤ 1000 ∧ l.length ≤ 1000) ∧ q (.tup (List.replicate k.toNat l).flatten)
  | x, y, q => dMul x y q
theorem sim_mulT {K : PySem.W.Frag} : Sim2 K (rMulT K) dMulT := fun F H x y d e Q q s r1 r2 w k => by
  cases r1 with
  | @tup a xs l h1 a1 =>
    cases r2 with
    | int j =>
      obtain ⟨⟨w1, w2, w3, w4⟩, w5⟩ := w
      refine .inr ⟨a, j, xs, rfl, rfl, same_t s h1, fun e => ?_, w2, w3, by rw [a1.len]; exact w4, fun e => ?_, fun _ p hp => k _ _ _ _ (Stp.new s hp) (.tup (.inl (.inl upd_same)) ((a1.rep _).mono (same_new (s.free hp)))) w5⟩
      · subst e
        cases a1
        exact w1 rfl
      · subst e
        have w6 : q (.tup (List.replicate 1 l).flatten) := w5
        rw [show List.replicate 1 l = [l] from rfl, List.flatten_cons, List.flatten_nil, List.append_nil] at w6
        exact k.here s (.tup h1 a1) w6
    | _ => exact w.elim
  | int i => exact .inl (sim_mul F H _ y _ e Q q s (.int i) r2 (by cases e <;> exact w) k)
  | lst h1 a1 => exact .inl (sim_mul F H _ y _ e Q q s (.lst h1 a1) r2 (by cases e <;> exact w) k)
  | _ => cases e <;> exact w.elim

/-! ### o.m(e, .., k = v) -/
def tMethN (C : Addr) (m : Str) (n mm : Nat) (sp : Sp) (gV : List V → List V → List V) (E : XK) (ta : TE) (t tk : TA) : TE := fun σ H Q => ta σ H fun x H1 => ∃ a dx fs, x = .ref a ∧ H1 a = some (.ins C dx fs) ∧ fs.lookup m = none ∧
  t σ H1 fun vs H2 => tk σ H2 fun zs H3 => vs.length = n ∧ zs.length = mm ∧ sp (gV (x :: vs) zs) H3 Q E
section
variable {X : Cx} {CX : CXT} {k n : Nat} {f C : Addr} {fd : FuncData} {ps ks : List Str} {sp : Sp} {E : XK} {m : Str} {p pos apos : Pos} {e o : Expr} {es : List Expr} {kws : List Keyword} {ta : TE} {t tk : TA} {g : List Value → List Value → List Value} {gV : List V → List V → List V}
/-- only keywords -/
theorem pe_methK0 {pl : Sem Bool} (he : PE X o ta) (c : Cls X.K C) (hm : Meth X.K C m f) (F : FnOk X.prog X.w X.K X.mg X.base CX k f fd ps sp) (hr : Room k X.A) (hb : KBn X.K fd ps (n + 1) ks g gV) (hx : Passes CX X E)
    (hkw : PK X kws tk) (hn : n = 0) (hall : (backToKw pos (keywordEach kws X.env)).all (·.1.isSome) = true := by rfl) (hks : (backToKw pos (keywordEach kws X.env)).filterMap (·.1) = ks := by rfl)
    (hpl : ((backTo pos (starEach [] X.env)).any (·.1) || (backToKw pos (keywordEach kws X.env)).any (·.1.isNone)) = false := by rfl)
    (ht : eval (.Call (.Attribute o m apos) [] kws pos) X.env = (do
      let ov ← eval o X.env
      standAt apos.atName
      let (f, first) ← holding [ov] (getMethod ov m pl)
      callWith pos f first (backTo pos (starEach [] X.env)) (backToKw pos (keywordEach kws X.env))) := by rfl) :
    PE X (.Call (.Attribute o m apos) [] kws pos) (tMethN C m n ks.length sp gV E ta tNil tk) := by
  refine ⟨fun pins s σ H Q I h => ?_⟩
  subst hn
  refine PySem.W.methodCall_KW (pl := pl) (thn (he.run pins s σ H _ I h) fun u s1 ⟨x, H1, I1, rx, a, dx, fs, ex, ea, l, q⟩ => ?_) ht
  subst ex
  obtain rfl : u = Value.ref a := rx
  refine getmeth_ok I1 ea c hm l ?_
  refine PySem.W.callWith_KW0 (first := [.ref a]) (h₀ := X.base) I.ok.mod.kin hm.kp hall (thn (hkw.run pos pins s1 σ H1 _ I1 q) fun ws s2 ⟨zs, H2, I2, rz, l1, l2, q2⟩ => ⟨I2.kIn, ?_⟩) hpl
  rw [hks]
  exact run_fnN (us := [.ref a]) (vs := [.ref a]) F hr hb hx I2 (.cons rfl .nil) rz rfl l2 q2
end
def wMethN (C : Addr) (m : Str) (mm p : Nat) (S : FS) (g : List D → List D → List D) (wa : WE) (wk : WA) : WE := fun env er q => wa env er fun o => match o with
  | .ins C' fs => C' = C ∧ fs.lookup m = none ∧ wk env er fun zs => zs.length = mm ∧ (g [o] zs).length = p ∧ S (g [o] zs) er q
  | _ => False
theorem sim_methN {K : PySem.W.Frag} {E : XK} {C : Addr} {m : Str} {mm p : Nat} {S : FS} {gV : List V → List V → List V} {g : List D → List D → List D} {ta : TE} {wa : WE} {tk : TA} {wk : WA} (hg : ∀ F vs ds us zs, RepA K F vs ds → RepA K F us zs → RepA K F (gV vs us) (g ds zs)) (ho : SimE K E ta wa) (hk : SimA K E tk wk) :
    SimE K E (tMethN C m 0 mm (spOf K p S) gV E ta tNil tk) (wMethN C m mm p S g wa wk) := fun B env F σ H Q er q a l w k =>
  ho B env F σ H _ er _ a l w fun x d F1 H1 s1 r1 w1 => by
    cases r1 with
    | @ins b C' dx xs fs h1 h2 =>
      obtain ⟨e1, e2, w2⟩ := w1
      subst e1
      refine ⟨b, dx, xs, rfl, s1.fh _ _ h1, h2.none e2, hk B env F1 σ H1 _ er _ (a.step s1) l w2 fun ys zs F2 H2 s2 r2 w3 => ?_⟩
      exact ⟨rfl, by rw [r2.len]; exact w3.1, F2, _, er, q, w3.2.1, s2.fh, hg F2 _ _ _ _ (.one ((Rep.ins h1 h2).mono s2.ff)) r2, w3.2.2, k.step (s1.trans s2), l.at (a.step (s1.trans s2))⟩
    | _ => exact w1.elim

/-! ### == and != by an own __eq__ -/
section
variable {X : Cx} {pins : List (Addr × Obj)} {σ : L2.St} {H : Hp} {s : Shared}
theorem looks_ty {x : V} {u t : Value} (I : Inv X pins σ H s) (rx : RelV x u) (ty : TyX X.K H x t) : PySem.W.Looks (model X.prog X.w) s.heap (typeOf u) t := by
  obtain ⟨P, Z, p, _⟩ := kit_of I rx ty
  exact Z.ty _ _ I.kIn p
theorem ins_inst {a C dx : Addr} {fs : List (Str × V)} (I : Inv X pins σ H s) (e : H a = some (.ins C dx fs)) : ∃ od, PySem.W.InstAt s.heap a (PySem.W.instObj C dx) C (some od) := by
  obtain ⟨mA, O, _⟩ := ins_get I.hok e
  obtain ⟨od, J, _⟩ := O.look
  exact ⟨od, J⟩
end
section
variable {X : Cx} {CX : CXT} {k : Nat} {g C : Addr} {fd : FuncData} {sp : Sp} {E : XK}
theorem cmpback {P : Value → Shared → Prop} {z : V} {v : Value} {s' : Shared} (r : RelV z v) (h : P v s') : PySem.W.CmpBack P v s' := by
  cases z with
  | int i =>
    obtain ⟨t, e⟩ := (show ∃ t, v = Value.int i t from r)
    cases e
    exact h
  | str x =>
    obtain ⟨t, e⟩ := (show ∃ t, v = Value.str x t from r)
    cases e
    exact h
  | byt x =>
    obtain ⟨t, e⟩ := (show ∃ t, v = Value.bytes x t from r)
    cases e
    exact h
  | flt x =>
    obtain ⟨t, e⟩ := (show ∃ t, v = Value.float x t from r)
    cases e
    exact h
  | _ =>
    cases r
    exact h
/-- x == y, x an instance of the class at C, whose __eq__ stands at g; y not of a class below -/
def rOwnEq (K : PySem.W.Frag) (C : Addr) (sp : Sp) (E : XK) : R2 := fun x y H Q => ∃ a dx fs t, x = .ref a ∧ H a = some (.ins C dx fs) ∧ TyX K H y t ∧ PySem.W.notFirst K C t = true ∧ sp [x, y] H Q E
theorem op_ownEq (hs : PySem.W.findIn X.K (.ref C) "__eq__" = some (some (.ref g))) (hf : PySem.W.isFn X.K (.ref g) = true) (F : FnOk X.prog X.w X.K X.mg X.base CX k g fd ["self", "other"] sp) (hb : Binds X.K fd ["self", "other"] []) (hr : Room k X.A) (hx : Passes CX X E) :
    OpR X (compareOp .Eq) (rOwnEq X.K C sp E) := by
  intro pins s σ H x y v u Q I rx ry h
  obtain ⟨a, dx, fs, t, rfl, ha, ty, hn, q⟩ := h
  cases (show v = Value.ref a from rx)
  obtain ⟨od, J⟩ := ins_inst I ha
  obtain ⟨m, hF⟩ := I.fr
  show wpAny _ _ (richCompare .Eq (.ref a) u) _ _ _
  refine PySem.W.cmp_K (op := .Eq) (tb := t) hr.units0 hF I.ok.mod.kin J (looks_ty I ry ty) hn hs hf ?_
  refine wpAny_mono (run_fn (us := [.ref a, u]) (vs := [.ref a, y]) (dvs := []) (ds := []) F hr hb .nil hx I (.cons rfl (.cons ry .nil)) q) (fun w s' z => ?_) fun _ _ x => x
  obtain ⟨z', H', I', rz, qz⟩ := z
  exact cmpback rz ⟨z', H', I', rz, qz⟩
theorem slot_ne : Slot "object" "__ne__" "object.__ne__" := Slot.of (T := "object") (name := "__ne__") (owner := "object") (n := "__ne__") (by rw [typeLookup_type, builtinLookup_eq_fast]; kernel_rfl) (by decide +kernel) (by decide +kernel) (by decide +kernel)
    (.inl (by decide +kernel)) (by rw [isSubtype_type]; kernel_rfl)
theorem run_fnA {pins : List (Addr × Obj)} {σ : L2.St} {H : Hp} {s : Shared} {Q : VK} {ps : List Str} {us : List Value} {vs : List V} {A : Around} (F : FnOk X.prog X.w X.K X.mg X.base CX k g fd ps sp) (hr : Room k A) (hA : A.frames = X.A.frames) (hb : Binds X.K fd ps []) (hx : Passes CX X E)
    (I : Inv X pins σ H s) (r : Vals vs us) (h : sp vs H Q E) : wpAny (model X.prog X.w) A (call (.ref g) us) (EP X pins σ Q) X.xe s := by
  have hl : (us ++ []).length = ps.length := by
    rw [List.append_nil, ← r.length]
    exact F.len _ _ _ _ h
  have e0 : Env0 X.prog X.w X.K X.mg X.base A X.stack s H := by
    have e := I.env0
    exact ⟨by rw [hA]; exact e.frames, e.mod, e.bs, e.bsz, e.funs, e.frf, e.hok, e.bare⟩
  have hb' := hb s us I.kIn hl
  rw [List.append_nil] at hb'
  refine wpAny_call (codeAny_mono (F.run A X.stack s H ⟨us, []⟩ us vs Q E hr e0 hb' r h) fun r s' hq => ?_)
  cases r with
  | error e => exact hx pins σ H s e s' I hq
  | ok fl =>
    cases fl with
    | ret u => exact I.after hq
    | next => exact False.elim hq
    | brk => exact False.elim hq
    | cont => exact False.elim hq
/-- x != y by x's __eq__, turned -/
def rOwnNe (K : PySem.W.Frag) (C : Addr) (sp : Sp) (E : XK) : R2 := fun x y H Q => ∃ a dx fs t, x = .ref a ∧ H a = some (.ins C dx fs) ∧ TyX K H y t ∧ PySem.W.notFirst K C t = true ∧ sp [x, y] H (fun z H' => ∃ b, z = .bl b ∧ Q (.bl (!b)) H') E
theorem op_ownNe (c : Cls X.K C) (hs : PySem.W.findIn X.K (.ref C) "__eq__" = some (some (.ref g))) (hne : PySem.W.findIn X.K (.ref C) "__ne__" = some (some (.builtin "object.__ne__"))) (hf : PySem.W.isFn X.K (.ref g) = true)
    (F : FnOk X.prog X.w X.K X.mg X.base CX k g fd ["self", "other"] sp) (hb : Binds X.K fd ["self", "other"] []) (hr : Room (k + 1) X.A) (hx : Passes CX X E) :
    OpR X (compareOp .NotEq) (rOwnNe X.K C sp E) := by
  intro pins s σ H x y v u Q I rx ry h
  obtain ⟨a, dx, fs, t, rfl, ha, ty, hn, q⟩ := h
  cases (show v = Value.ref a from rx)
  obtain ⟨od, J⟩ := ins_inst I ha
  obtain ⟨cd, hc, ho⟩ := PySem.W.any_some c.po
  have ne : cd.mro.isEmpty = false := by cases q : cd.mro with | nil => rw [q] at ho; cases ho | cons _ _ => rfl
  have sub : PySem.W.Looks (model X.prog X.w) s.heap (isInstance (.ref a) (.type "object")) true := J.type.andThen (PySem.W.looks_mroIn I.kIn (by unfold PySem.W.mroIn; rw [hc, Option.bind_some, if_neg (by rw [ne]; decide), PySem.W.only_has ho]))
  show wpAny _ _ (richCompare .NotEq (.ref a) u) _ _ _
  have body : wpAny (model X.prog X.w) X.A (call (.builtin "object.__ne__") [.ref a, u]) (fun v s' => ∃ b, v = .bool b ∧ EP X pins σ Q (.bool b) s') X.xe s := by
    refine wpAny_call (codeAny_call_builtin slot_ne.plain _root_.PySem.F.cmpEntry_ne (@PySem.W.check_slot (model X.prog X.w) _ _ s "object.__ne__" "object" "__ne__" (.ref a) [u] [] _ _root_.PySem.F.cmpKind_ne _root_.PySem.F.cmpSplit_ne sub (_root_.PySem.F.cmpArgs_ne _ _) ?_))
    unfold Builtin.«object.__ne__»
    have hsl : slotArgs "__ne__" 1 { pos := [Value.ref a, u] } = pure (.ref a, [u]) := by first | rfl | (unfold slotArgs; rfl) | (unfold slotArgs; simp)
    rw [hsl]
    refine wpAny_bind (wpAny_pure ?_)
    refine wpAny_bind (wpAny_cRoomFor (by have := hr.un; show X.A.units + 1 < cLine; omega) ?_)
    refine wpAny_bind (PySem.W.ifBound_K I.kIn J hs hf ?_)
    refine wpAny_mono (run_fnA (us := [.ref a, u]) (vs := [.ref a, y]) (A := X.A.in1) F hr.in1 rfl hb hx I (.cons rfl (.cons ry .nil)) q) (fun v s' z => ?_) fun _ _ x => x
    obtain ⟨z', H', I', rz, b, eb, qz⟩ := z
    subst eb
    cases (show v = Value.bool b from rz)
    exact wpAny_bind (wpAny_truthy_bool (wpAny_pure ⟨!b, rfl, .bl (!b), H', I', rfl, qz⟩))
  have one : wpAny (model X.prog X.w) X.A (tryCompare (.ref a) (cmpInfo .NotEq).2.1 u) (fun r s' => ∃ v, r = some v ∧ EP X pins σ Q v s') X.xe s := by
    unfold tryCompare
    refine wpAny_bind ?_
    simp only [callSpecialIfBound?, bindSpecialIfBound?]
    refine wpAny_holding (wpAny_bind (wpAny_bind (wpAny_bind (J.type.here ((PySem.W.looks_findIn I.kIn hne).here ?_)))))
    refine wpAny_bind (wpAny_askSetting (wpAny_ite ?_))
    rw [slot_ne.bind]
    have fin : wpAny (model X.prog X.w) X.A (call (.builtin "object.__ne__") ([.ref a] ++ [u]) >>= fun v => pure (some v)) (fun r s' => ∃ b, r = some (.bool b) ∧ EP X pins σ Q (.bool b) s') X.xe s := wpAny_bind (wpAny_mono body (fun v s' h' => by
      obtain ⟨b, rfl, h'⟩ := h'
      exact wpAny_pure ⟨b, rfl, h'⟩) fun _ _ h' => h')
    have fin2 : wpAny (model X.prog X.w) X.A (call (.builtin "object.__ne__") ([.ref a] ++ [u]) >>= fun v => pure (some v)) (fun r s' => wpAny (model X.prog X.w) X.A (match r with | some .notImplemented | none => pure none | some v => pure (some v)) (fun r s' => ∃ v, r = some v ∧ EP X pins σ Q v s') X.xe s') X.xe s := wpAny_mono fin (fun r s' h' => by
      obtain ⟨b, rfl, h'⟩ := h'
      exact wpAny_pure ⟨_, rfl, h'⟩) fun _ _ h' => h'
    split
    · exact wpAny_bind (wpAny_pure (wpAny_pure (by exact fin2)))
    · exact wpAny_tryCatch (wpAny_bind (wpAny_pure (wpAny_pure (by exact fin2))))
  unfold richCompare
  simp only [oneThing_ref]
  refine wpAny_holding (wpAny_bind (wpAny_cRoomFor hr.units0 ?_))
  refine wpAny_bind (J.type.here (wpAny_bind ((looks_ty I ry ty).here ?_)))
  split
  · rename_i q
    have e : PySem.W.subIn X.K t (.ref C) = some false := by
      rcases Bool.or_eq_true_iff.mp hn with e | e
      · rw [beq_iff_eq.mp e] at q; simp at q
      · exact beq_iff_eq.mp e
    refine wpAny_bind ((PySem.W.looks_subIn I.kIn e).here ?_)
    simp only [Bool.false_eq_true, if_false]
    refine wpAny_bind (wpAny_mono one (fun r s' z => ?_) fun _ _ e => e)
    obtain ⟨v, rfl, hq⟩ := z
    exact wpAny_pure hq
  · refine wpAny_bind (wpAny_pure ?_)
    simp only [Bool.false_eq_true, if_false]
    refine wpAny_bind (wpAny_mono one (fun r s' z => ?_) fun _ _ e => e)
    obtain ⟨v, rfl, hq⟩ := z
    exact wpAny_pure hq
end
end DL
/-! DL4: targets, instances made, fields stored, own ==, keywords, bags. -/
namespace DL
open PySem L2
section
variable {K : PySem.W.Frag} {E : XK} {ta tb tc te : TE} {wa wb wc we : WE} {X : Cx}

/-! ### several targets -/
def gNs : List Nat → TGs
  | [] => gNil
  | i :: r => gCons (gName i) (gNs r)
def setAll : List Nat → List D → EV → (EV → Prop) → Prop
  | [], [], env, q => q env
  | i :: js, x :: l, env, q => setAll js l (env.set i (.d x)) q
  | _, _, _, _ => False
def gTupD (js : List Nat) : D → EV → (EV → Prop) → Prop := fun d env q => match d with
  | .tup l => setAll js l env q
  | _ => False
theorem setAll_ok : ∀ {js : List Nat} {l : List D} {B : Ent} {env : EV} {F : Hp} {σ : L2.St} {H : Hp} {xs : List V} {Q : L2.St → Hp → Prop} {q : EV → Prop}, At K B env F σ H → RepA K F xs l → setAll js l env q →
    (∀ env' σ', At K B env' F σ' H → σ'.length = σ.length → (∀ i, i ∉ js → σ'[i]? = σ[i]?) → q env' → Q σ' H) → gNs js xs σ H Q
  | [], [], _, _, _, _, _, _, _, _, a, .nil, w, k => ⟨rfl, k _ _ a rfl (fun _ _ => rfl) w⟩
  | i :: js, d :: l, _, _, _, _, _, _, _, _, a, .cons h r, w, k => ⟨_, _, rfl, setAll_ok (a.set h) r w fun env' σ' a' hl ho hq => k env' σ' a' (by rw [hl, List.length_set]) (fun n hn => by
      rw [ho n (fun z => hn (List.mem_cons_of_mem _ z)), off1 (fun z => hn (by simp at z; simp [z]))]) hq⟩
  | [], _ :: _, _, _, _, _, _, _, _, _, _, _, w, _ => w.elim
  | _ :: _, [], _, _, _, _, _, _, _, _, _, _, w, _ => w.elim
theorem setAll_len : ∀ {js : List Nat} {l : List D} {env : EV} {q : EV → Prop}, setAll js l env q → l.length = js.length
  | [], [], _, _, _ => rfl
  | _ :: _, _ :: _, _, _, w => congrArg Nat.succ (setAll_len w)
  | [], _ :: _, _, _, w => w.elim
  | _ :: _, [], _, _, w => w.elim
theorem simg_names {js : List Nat} {n : Nat} (hn : js.length = n := by rfl) : SimG K js (gTup K n (gNs js)) (gTupD js) := fun B env F σ H x d Q q a r w k => by
  unfold gTupD at w
  split at w
  · cases r with
    | tup h1 h2 => exact ⟨_, _, rfl, same_t a.fh h1, by rw [h2.len, setAll_len w, hn], setAll_ok a h2 w k⟩
  · exact w.elim
/-- any target -/
def sAsgG (g : D → EV → (EV → Prop) → Prop) (we : WE) : WS := fun n env => we env n.er fun d => g d env n.nx
theorem sims_asgG {js : List Nat} {tg : TG} {g : D → EV → (EV → Prop) → Prop} (h : SimE K E te we) (hg : SimG K js tg g) : SimS K E (tAsg te tg) (sAsgG g we) := fun B Dd n L env F σ H a w =>
  h B env F σ H _ n.er _ a L.er w fun x d F1 H1 s1 r1 w1 => hg B env F1 σ H1 x d _ _ (a.step s1) r1 w1 fun env' σ' a' _ _ q => L.nx _ _ _ _ a' q
/-- found, rest = [], ..: by a tuple -/
theorem sims_tupO {i j : Nat} {wo : WO} (ha : SimO K E ta wo) (hb : SimE K E tb wb) : SimS K E (tAsg (tTup (tCons ta (tCons tb tNil))) (gTup K 2 (gCons (gName i) (gCons (gName j) gNil)))) (sParO i j wo wb) := fun B Dd n L env F σ H a w =>
  ha B env F σ H _ n.er _ a L.er w fun p xs l F1 H1 s1 hp h1 hf r1 w1 => hb B env F1 σ H1 _ n.er _ (a.step s1) L.er w1 fun y e F2 H2 s2 r2 w2 =>
    ⟨by show 2 ≤ sizeLine; decide, fun T hT => ⟨T, _, rfl, .inl (.inl upd_same), rfl, _, _, rfl, _, _, rfl, rfl, by
      have s := (s1.trans s2).trans (Stp.fresh (o := .tup [.ref p, y]) s2.fh hT)
      have h2 := s2.hh _ _ h1
      exact L.nx _ F2 _ _ ((a.setNew s hp (by rw [upd_ne (ne_of_none h2 hT)]; exact h2) (s2.nw p hf (by rw [h1]; exact fun z => nomatch z)) (RepA.mono s2.ff r1)).set r2) w2⟩⟩
def sPar3 (i j l : Nat) (wa wb wc : WE) : WS := fun n env => wa env n.er fun x => wb env n.er fun y => wc env n.er fun z => n.nx (((env.set i (.d x)).set j (.d y)).set l (.d z))
theorem sims_par3 {i j l : Nat} (ha : SimE K E ta wa) (hb : SimE K E tb wb) (hc : SimE K E tc wc) : SimS K E (tPar3 i j l (tCons ta (tCons tb (tCons tc tNil)))) (sPar3 i j l wa wb wc) := fun B Dd n L env F σ H a w =>
  ha B env F σ H _ n.er _ a L.er w fun x d F1 H1 s1 r1 w1 => hb B env F1 σ H1 _ n.er _ (a.step s1) L.er w1 fun y e F2 H2 s2 r2 w2 => hc B env F2 σ H2 _ n.er _ (a.step (s1.trans s2)) L.er w2 fun z f F3 H3 s3 r3 w3 =>
    ⟨x, y, z, rfl, L.nx _ F3 _ H3 ((((a.step ((s1.trans s2).trans s3)).set (r1.mono (s2.trans s3).ff)).set (r2.mono s3.ff)).set r3) w3⟩
def sParO3 (i j l : Nat) (wo : WO) (wb wc : WE) : WS := fun n env => wo env n.er fun x => wb env n.er fun y => wc env n.er fun z => n.nx (((env.set i (.own x)).set j (.d y)).set l (.d z))
theorem sims_parO3 {i j l : Nat} {wo : WO} (ha : SimO K E ta wo) (hb : SimE K E tb wb) (hc : SimE K E tc wc) : SimS K E (tPar3 i j l (tCons ta (tCons tb (tCons tc tNil)))) (sParO3 i j l wo wb wc) := fun B Dd n L env F σ H a w =>
  ha B env F σ H _ n.er _ a L.er w fun p xs m F1 H1 s1 hp h1 hf r1 w1 => hb B env F1 σ H1 _ n.er _ (a.step s1) L.er w1 fun y e F2 H2 s2 r2 w2 => hc B env F2 σ H2 _ n.er _ (a.step (s1.trans s2)) L.er w2 fun z f F3 H3 s3 r3 w3 => by
    have f2 := s2.nw p hf (by rw [h1]; exact fun z => nomatch z)
    have h2 := s2.hh _ _ h1
    exact ⟨.ref p, y, z, rfl, L.nx _ F3 _ H3 (((a.setNew ((s1.trans s2).trans s3) hp (s3.hh _ _ h2) (s3.nw p f2 (by rw [h2]; exact fun z => nomatch z)) (RepA.mono (s2.trans s3).ff r1)).set (r2.mono s3.ff)).set r3) w3⟩

/-! ### instances -/
abbrev IS := List D → ER → (List (Str × D) → Prop) → Prop
def wo (H : Hp) (x : Addr) : Hp := fun a => if a = x then none else H a
theorem wo_same {H : Hp} {x : Addr} : wo H x x = none := by
  unfold wo
  rw [if_pos rfl]
theorem wo_ne {H : Hp} {x a : Addr} (h : a ≠ x) : wo H x a = H a := by
  unfold wo
  rw [if_neg h]
theorem same_wo {H : Hp} {x : Addr} : Same (wo H x) H := fun a o e => by
  by_cases h : a = x
  · rw [h, wo_same] at e
    cases e
  · rw [wo_ne h] at e
    exact e
theorem same_in_wo {F H : Hp} {x : Addr} (e : Same F H) (h : F x = none) : Same F (wo H x) := fun a o q => by
  rw [wo_ne (ne_of_none q h)]
  exact e a o q
def spInit (K : PySem.W.Frag) (C : Addr) (n : Nat) (S : IS) : Sp := fun vs H Q E => ∃ (x dx : Addr) (vs' : List V) (F : Hp) (ds : List D) (er : ER) (q : List (Str × D) → Prop), vs = .ref x :: vs' ∧ ds.length = n ∧ H x = some (.ins C dx []) ∧ F x = none ∧ Same F H ∧ RepA K F vs' ds ∧ S ds er q ∧
  (∀ (dy : Addr) (xs : List (Str × V)) (fs : List (Str × D)) (F' H' : Hp), Stp F F' (wo H x) H' → H' x = some (.ins C dy xs) → F' x = none → RepF K F' xs fs → q fs → Q .non H') ∧ EL K ⟨F, wo H x⟩ E er
theorem spInit_len {C : Addr} {n : Nat} {S : IS} {vs : List V} {H : Hp} {Q : VK} (h : spInit K C n S vs H Q E) : vs.length = n + 1 := by
  obtain ⟨x, dx, vs', F, ds, er, q, rfl, hl, _, _, _, r, _⟩ := h
  rw [List.length_cons, r.len, hl]
theorem Stp.weak {F F' H Hm H' : Hp} (s : Stp F F' Hm H') (e : Same H Hm) : Stp F F' H H' := ⟨s.ff, e.trans s.hh, s.fh, fun a h1 h2 => s.nw a h1 (by
  cases h : H a with
  | none => exact absurd h h2
  | some o =>
    rw [e a o h]
    exact fun z => nomatch z)⟩
theorem init_run {C : Addr} {n : Nat} {S : IS} {F1 H1 : Hp} {Q : VK} {er : ER} {q : D → Prop} {vs : List V} {ds : List D} (fh : Same F1 H1) (r : RepA K F1 vs ds) (hl : ds.length = n) (w : S ds er fun fs => q (.ins C fs)) (k : VL K F1 H1 Q q) (l : EL K ⟨F1, H1⟩ E er) :
    ∀ x dx, H1 x = none → H1 dx = none → dx ≠ x → spInit K C n S (.ref x :: vs) (upd (upd H1 dx (.own x)) x (.ins C dx [])) (fun v H2 => v = .non ∧ Q (.ref x) H2) E := fun x dx hx hdx hne => by
  have e0 : Same H1 (wo (upd (upd H1 dx (.own x)) x (.ins C dx [])) x) := fun a o e => by
    rw [wo_ne (ne_of_none e hx), upd_ne (ne_of_none e hx), upd_ne (ne_of_none e hdx)]
    exact e
  refine ⟨x, dx, vs, F1, ds, er, _, rfl, hl, upd_same, fh.free hx, fh.trans (e0.trans same_wo), r, w, fun dy xs fs F' H' s hx' hf rf z => ⟨rfl, ?_⟩, fun C' d fs F' H' s z1 z2 => l C' d fs F' H' (s.weak e0) z1 z2⟩
  have s1 : Stp F1 F' H1 H' := s.weak e0
  exact k _ _ _ _ (s1.freeze hx hf hx') (.ins upd_same (rf.mono (same_new hf))) z
def wMake (C : Addr) (n : Nat) (S : IS) (dd : List D) (wa : WA) : WE := fun env er q => wa env er fun ds => (ds ++ dd).length = n ∧ S (ds ++ dd) er fun fs => q (.ins C fs)
theorem sim_make {C : Addr} {n : Nat} {S : IS} {dvs : List V} {dd : List D} {t : TA} {w : WA} (hd : ∀ F, RepA K F dvs dd) (ha : SimA K E t w) : SimE K E (tMake C (spInit K C n S) dvs E t) (wMake C n S dd w) := fun B env F σ H Q er q a l w k =>
  ha B env F σ H _ er _ a l w fun xs ds F1 H1 s1 r1 w1 => init_run s1.fh (r1.app (hd F1)) w1.1 w1.2 (k.step s1) (l.at (a.step s1))
def wMake0 (C : Addr) (n : Nat) (S : IS) (dd : List D) (wa : WA) : WE := fun env er q => wa env er fun ds => (ds ++ dd).length = n ∧ S (ds ++ dd) (fun _ => False) fun fs => q (.ins C fs)
theorem sim_make0 {C : Addr} {n : Nat} {S : IS} {dvs : List V} {dd : List D} {t : TA} {w : WA} {E1 : XK} (hd : ∀ F, RepA K F dvs dd) (ha : SimA K E t w) : SimE K E (tMake C (spInit K C n S) dvs E1 t) (wMake0 C n S dd w) := fun B env F σ H Q er q a l w k =>
  ha B env F σ H _ er _ a l w fun xs ds F1 H1 s1 r1 w1 => init_run (E := E1) s1.fh (r1.app (hd F1)) w1.1 w1.2 (k.step s1) EL.no
/-- C(k = v, ..): g puts the values in the parameters' order -/
def wMakeK (C : Addr) (m n : Nat) (S : IS) (g : List D → List D) (wk : WA) : WE := fun env er q => wk env er fun zs => zs.length = m ∧ (g zs).length = n ∧ S (g zs) er fun fs => q (.ins C fs)
theorem sim_makeK {C : Addr} {m n : Nat} {S : IS} {gV : List V → List V → List V} {gW : List V → List V} {g : List D → List D} {tk : TA} {w : WA} (hv : ∀ x zs, gV [x] zs = x :: gW zs) (hg : ∀ F us zs, RepA K F us zs → RepA K F (gW us) (g zs)) (hk : SimA K E tk w) :
    SimE K E (tMakeK C 0 m (spInit K C n S) gV E tNil tk) (wMakeK C m n S g w) := fun B env F σ H Q er q a l w k =>
  hk B env F σ H _ er _ a l w fun xs ds F1 H1 s1 r1 w1 => ⟨rfl, by rw [r1.len]; exact w1.1, fun x dx hx hdx hne => by
    rw [hv]
    exact init_run s1.fh (hg F1 _ _ r1) w1.2.1 w1.2.2 (k.step s1) (l.at (a.step s1)) x dx hx hdx hne⟩
def putD (f : Str) (v : D) : List (Str × D) → List (Str × D)
  | [] => [(f, v)]
  | (g, x) :: r => if g = f then (g, v) :: r else (g, x) :: putD f v r
theorem RepF.put {F : Hp} {f : Str} {y : V} {d : D} (hy : Rep K F y d) : ∀ {xs : List (Str × V)} {fs : List (Str × D)}, RepF K F xs fs → RepF K F (putF f y xs) (putD f d fs)
  | _, _, .nil => .cons hy .nil
  | (n, v) :: xs, (_, e) :: fs, .cons h r => by
    unfold putF putD
    by_cases z : n = f
    · rw [if_pos z, if_pos z]
      exact .cons hy r
    · rw [if_neg z, if_neg z]
      exact .cons h (RepF.put hy r)
/-- self.f = e, in __init__ -/
def sFldI (C : Addr) (i : Nat) (f : Str) (we : WE) : WS := fun n env => match env[i]? with
  | some (.me a C' fs) => C' = C ∧ we env n.er fun d => fs.length < 1000 ∧ n.nx (env.set i (.me a C (putD f d fs)))
  | _ => False
theorem sims_fld {C : Addr} {i : Nat} {f : Str} (cl : Cls K C) (na : NoAttr K C f) (h : SimE K E te we) : SimS K E (sFld K (tVar i) te f) (sFldI C i f we) := fun B Dd n L env F σ H a w => by
  unfold sFldI at w
  split at w
  · rename_i p C' fs e
    obtain ⟨rfl, w⟩ := w
    obtain ⟨dx, xs, ex, h1, r, h2, h3⟩ := a.sl i _ e
    refine h B env F σ H _ n.er _ a L.er w fun y d F1 H1 s1 r1 w1 => ?_
    have g1 := s1.hh _ _ h1
    refine ⟨.ref p, ex, p, C', dx, xs, rfl, g1, cl, na, by rw [r.len]; exact w1.1, ?_⟩
    have f1 := s1.nw p h2 (by rw [h1]; exact fun z => nomatch z)
    exact L.nx _ F1 _ _ ((a.step s1).changeG (sw := .me p C' (putD f d fs)) e trivial ex f1 h3 ⟨dx, _, rfl, upd_same, RepF.put r1 (RepF.mono s1.ff r), f1, h3⟩) w1.2
  · exact w.elim
def envI (N : Nat) (x C : Addr) (ds : List D) : EV := .me x C [] :: (ds.map .d ++ List.replicate (N - (ds.length + 1)) .un)
open PySem.Spec PyProof.Rows
theorem startI_at {N : List Str} {F H : Hp} {x C dx : Addr} {vs : List V} {ds : List D} (s : Same F H) (hx : H x = some (.ins C dx [])) (hf : F x = none) (r : RepA K F vs ds) (hl : ds.length + 1 ≤ N.length) : At K ⟨F, wo H x⟩ (envI N.length x C ds) F (L2.start N (.ref x :: vs)) H := by
  have hlen := r.len
  have a0 : At K ⟨F, wo H x⟩ (.un :: (ds.map .d ++ List.replicate (N.length - (ds.length + 1)) .un)) F (L2.start N (.ref x :: vs)) H := by
    refine ⟨?_, ⟨Same.refl F, same_wo, s, fun a h _ => h⟩, fun i sv e => ?_, fun i j t u b e1 e2 m1 _ _ _ => ?_⟩
    · unfold L2.start
      simp only [List.length_append, List.length_map, List.length_replicate, List.length_cons, hlen]
      omega
    · cases i with
      | zero =>
        cases e
        trivial
      | succ i =>
        have e : (ds.map SV.d ++ List.replicate (N.length - (ds.length + 1)) .un)[i]? = some sv := by simpa using e
        by_cases hi : i < ds.length
        · rw [List.getElem?_append_left (by rw [List.length_map]; exact hi), List.getElem?_map] at e
          cases e2 : ds[i]? with
          | none =>
            rw [e2] at e
            cases e
          | some d =>
            rw [e2] at e
            cases e
            obtain ⟨y, hy, ry⟩ := r.getD e2
            refine ⟨y, ?_, ry⟩
            unfold L2.start
            rw [List.getElem?_append_left (by simp [hlen]; exact hi), List.getElem?_map, List.getElem?_cons_succ, hy]
            rfl
        · rw [List.getElem?_append_right (by rw [List.length_map]; omega)] at e
          have z := List.mem_replicate.mp (List.mem_of_getElem? e)
          rw [z.2]
          trivial
    · exfalso
      have z := List.mem_of_getElem? e1
      rcases List.mem_cons.mp z with z | z
      · rw [z] at m1
        exact m1
      rcases List.mem_append.mp z with z | z
      · obtain ⟨d, _, rfl⟩ := List.mem_map.mp z
        exact m1
      · rw [(List.mem_replicate.mp z).2] at m1
        exact m1
  have z : (L2.start N (.ref x :: vs))[0]? = some (some (.ref x)) := rfl
  have a1 := a0.setMine (i := 0) (p := x) (sv := .me x C []) trivial ⟨dx, [], rfl, hx, .nil, hf, wo_same⟩ fun j t hj e m q => by
    have := a0.sl j t e
    exfalso
    have z := List.mem_of_getElem? e
    rcases List.mem_cons.mp z with z | z
    · rw [z] at m
      exact m
    rcases List.mem_append.mp z with z | z
    · obtain ⟨d, _, rfl⟩ := List.mem_map.mp z
      exact m
    · rw [(List.mem_replicate.mp z).2] at m
      exact m
  exact a1
theorem body_init {N : List Str} {C : Addr} {n : Nat} {S : IS} {t : TS} {w : WS} {vs : List V} {H : Hp} {Q : VK} (ht : SimS K E t w) (hn : n + 1 ≤ N.length)
    (hw : ∀ x ds er q, ds.length = n → S ds er q → w { nx := fun env => ∃ fs, env[0]? = some (.me x C fs) ∧ q fs, rt := fun _ => False, er := er } (envI N.length x C ds)) (h : spInit K C n S vs H Q E) : t { nx := fun _ H' => Q .non H', rt := Q } (L2.start N vs) H := by
  obtain ⟨x, dx, vs', F, ds, er, q, rfl, hl, hx, hf, s, r, hS, kv, ke⟩ := h
  refine ht ⟨F, wo H x⟩ _ _ ⟨fun env F' σ H' a z => ?_, fun _ _ _ _ _ _ z => False.elim z, fun _ _ _ _ _ z => False.elim z, fun _ _ _ _ _ z => False.elim z, ke⟩ _ F _ H (startI_at s hx hf r (by omega)) (hw x ds er q hl hS)
  obtain ⟨fs, e, z⟩ := z
  obtain ⟨dy, xs, ex, h1, rf, h2, h3⟩ := a.sl 0 _ e
  exact kv dy xs fs F' H' a.st h1 h2 rf z
theorem ok_init {P : Program} {w : World} {mg : Str → Option Value} {base : Heap} {x qual : Str} {st : Stmt} {f C : Addr} {fd : FuncData} {N : List Str} {p : Str} {ps : List Str} {k : Nat} {S : IS} (F : Fun K x qual st f fd) (sc : FnScope N (p :: ps) (defScope st)) (hn : ps.length + 1 ≤ N.length)
    (hb : ∀ (cdv : Value) (A : Around) (outer : List Env) (s : Shared) (H : Hp) (E : XK), Room k (A.deeper (envOfC qual (defScope st) s.heap.objs.size f cdv)) →
      ∃ t ws, PSs (cxOf (L2.CX P w) P w K mg base N qual (defScope st) f cdv A outer s H E) (defBody st) t ∧ SimS K E t ws ∧
        ∀ x ds er q, ds.length = ps.length → S ds er q → ws { nx := fun env => ∃ fs, env[0]? = some (.me x C fs) ∧ q fs, rt := fun _ => False, er := er } (envI N.length x C ds)) :
    FnOk P w K mg base (L2.CX P w) (k + 1) f fd (p :: ps) (spInit K C ps.length S) := by
  refine F.okX sc (fun vs H Q E h => spInit_len h) (fun cdv A outer s H vs Q E hr h => ?_)
  obtain ⟨t, ws, h1, h2, h3⟩ := hb cdv A outer s H E hr
  exact ⟨t, h1, body_init h2 hn h3 h⟩

/-! ### own ==, != -/
def dOwnEq (K : PySem.W.Frag) (C : Addr) (S : FS) : D → D → (D → Prop) → Prop := fun x y q => match x with
  | .ins C' _ => C' = C ∧ OkTy K y ∧ PySem.W.notFirst K C (tyD y) = true ∧ S [x, y] (fun _ => False) q
  | _ => False
theorem sim_ownEq {C : Addr} {S : FS} {E1 : XK} : Sim2 K (rOwnEq K C (spOf K 2 S) E1) (dOwnEq K C S) := fun F H x y d e Q q s r1 r2 w k => by
  cases r1 with
  | @ins a C' dx xs fs h1 h2 =>
    obtain ⟨rfl, w1, w2, w3⟩ := w
    exact ⟨a, dx, xs, _, rfl, s _ _ h1, tyx_of s r2 w1, w2, F, _, _, q, rfl, s, .cons (.ins h1 h2) (.cons r2 .nil), w3, k, EL.no⟩
  | _ => exact w.elim
def dOwnNe (K : PySem.W.Frag) (C : Addr) (S : FS) : D → D → (D → Prop) → Prop := fun x y q => match x with
  | .ins C' _ => C' = C ∧ OkTy K y ∧ PySem.W.notFirst K C (tyD y) = true ∧ S [x, y] (fun _ => False) fun z => match z with
    | .bl b => q (.bl (!b))
    | _ => False
  | _ => False
theorem sim_ownNe {C : Addr} {S : FS} {E1 : XK} : Sim2 K (rOwnNe K C (spOf K 2 S) E1) (dOwnNe K C S) := fun F H x y d e Q q s r1 r2 w k => by
  cases r1 with
  | @ins a C' dx xs fs h1 h2 =>
    obtain ⟨rfl, w1, w2, w3⟩ := w
    refine ⟨a, dx, xs, _, rfl, s _ _ h1, tyx_of s r2 w1, w2, F, _, _, _, rfl, s, .cons (.ins h1 h2) (.cons r2 .nil), w3, fun v z F' H' s' r' z' => ?_, EL.no⟩
    cases r' with
    | bl b => exact ⟨b, rfl, k _ _ F' H' s' (.bl (!b)) z'⟩
    | _ => exact False.elim z'
  | _ => exact w.elim

/-! ### keywords of a def without defaults -/
theorem kb_of {x qual : Str} {st : Stmt} {f : Addr} {fd : FuncData} {ps : List Str} (F : Fun K x qual st f fd) (n : Nat) (ks : List Str) (g : {α : Type} → List α → List α → List α)
    (hr : ∀ {vs : List V} {us : List Value} {zs : List V} {ws : List Value}, Vals vs us → Vals zs ws → Vals (g vs zs) (g us ws))
    (h : ∀ (kV doc pm : Value) (an : Option Addr) (cdv ct : Value) (us ws : List Value), us.length = n → ws.length = ks.length → bindArgs (PySem.W.fnOf x qual (defArgs st) (defBody st) (defScope st) .none kV doc pm an cdv ct) ⟨us, ks.zip ws⟩ = pure (ps.zip (g us ws))) :
    KBn K fd ps n ks (fun us ws => g us ws) (fun vs zs => g vs zs) := by
  obtain ⟨oc, od, kV, doc, pm, an, cdv, ct, osl, rfl, lk, hcd⟩ := F.ex
  exact ⟨fun s us ws _ l1 l2 => .of_eq (h kV doc pm an cdv ct us ws l1 l2), fun r1 r2 => hr r1 r2⟩

/-! ### bags -/
theorem inv_view {pins : List (Addr × Obj)} {σ : L2.St} {H : Hp} {s : Shared} {a : Addr} {o : HO} (I : Inv X pins σ H s) (mu : Mut (H a)) (ht : ∃ u, s.heap.get? a = some u) (ok : ObjOk X.prog X.w (upd H a o) s.heap a o) : Inv X pins σ (upd H a o) s :=
  I.write (t' := s.toks) (x := a) (e := a) (h' := s.heap) mu (.inl rfl) (fun b u _ z => z) ht ok
end
end DL
/-! DL5: tests, isinstance by classes, own == by classes, bags. -/
namespace DL
open PySem L2
section
variable {K : PySem.W.Frag} {E : XK} {ta tb tc te : TE} {wa wb wc we : WE} {tt tu : TT} {wt wu : WT} {X : Cx}

/-! ### tests -/
def tyAnd (wt wu : WT) : WT := fun env er q => wt env er fun b => (b = true → wu env er q) ∧ (b = false → q false)
theorem simt_and (h : SimT K E tt wt) (g : SimT K E tu wu) : SimT K E (tAnd tt tu) (tyAnd wt wu) := fun B env F σ H Q er q a l w k =>
  h B env F σ H _ er _ a l w fun b F1 H1 s1 w1 => by
    cases b with
    | true => exact g B env F1 σ H1 Q er q (a.step s1) l (w1.1 rfl) fun b F2 H2 s2 => k b F2 H2 (s1.trans s2)
    | false => exact k false F1 H1 s1 (w1.2 rfl)
def tyOr (wt wu : WT) : WT := fun env er q => wt env er fun b => (b = true → q true) ∧ (b = false → wu env er q)
theorem simt_or (h : SimT K E tt wt) (g : SimT K E tu wu) : SimT K E (tOr tt tu) (tyOr wt wu) := fun B env F σ H Q er q a l w k =>
  h B env F σ H _ er _ a l w fun b F1 H1 s1 w1 => by
    cases b with
    | true => exact k true F1 H1 s1 (w1.1 rfl)
    | false => exact g B env F1 σ H1 Q er q (a.step s1) l (w1.2 rfl) fun b F2 H2 s2 => k b F2 H2 (s1.trans s2)
def tyNot (wt : WT) : WT := fun env er q => wt env er fun b => q (!b)
theorem simt_not (h : SimT K E tt wt) : SimT K E (tNot tt) (tyNot wt) := fun B env F σ H Q er q a l w k =>
  h B env F σ H _ er _ a l w fun b F1 H1 s1 w1 => k (!b) F1 H1 s1 w1

/-! ### classes by data -/
structure CtxD where
  own : Addr → Bool
  sub : Addr → Addr → Option Bool
def bts : List String := ["int", "bool", "str", "tuple", "list", "dict", "float", "set", "bytes", "type", "NoneType"]
structure TyOk (K : PySem.W.Frag) (A : CtxD) : Prop where
  cls : ∀ C, A.own C = true → OwnC K C
  up : ∀ C, A.own C = true → ∀ T ∈ bts, PySem.W.kitOne K (.ref C) (.type T) = some false
  dn : ∀ C, A.own C = true → ∀ T ∈ bts, PySem.W.kitOne K (.type T) (.ref C) = some false
  sub : ∀ C C' b, A.sub C C' = some b → A.own C = true ∧ PySem.W.kitOne K (.ref C) (.ref C') = some b
def isT (A : CtxD) : D → String → Option Bool
  | .int _, T => if T ∈ bts then some (T == "int") else none
  | .bl _, T => if T ∈ bts then some (T == "int" || T == "bool") else none
  | .str _, T => if T ∈ bts then some (T == "str") else none
  | .tup _, T => if T ∈ bts then some (T == "tuple") else none
  | .lst _, T => if T ∈ bts then some (T == "list") else none
  | .non, T => if T ∈ bts then some (T == "NoneType") else none
  | .ins C _, T => if T ∈ bts ∧ A.own C = true then some false else none
  | _, _ => none
def isO (A : CtxD) : D → Addr → Option Bool
  | .ins C _, C' => A.sub C C'
  | .ty _, _ => none
  | .obj _, _ => none
  | .scr _, _ => none
  | .bag _, _ => none
  | _, C' => if A.own C' = true then some false else none
theorem kits (K : PySem.W.Frag) : (∀ T ∈ bts, PySem.W.kitOne K (.type "int") (.type T) = some (T == "int")) ∧ (∀ T ∈ bts, PySem.W.kitOne K (.type "bool") (.type T) = some (T == "int" || T == "bool")) ∧ (∀ T ∈ bts, PySem.W.kitOne K (.type "str") (.type T) = some (T == "str")) ∧
    (∀ T ∈ bts, PySem.W.kitOne K (.type "tuple") (.type T) = some (T == "tuple")) ∧ (∀ T ∈ bts, PySem.W.kitOne K (.type "list") (.type T) = some (T == "list")) ∧ (∀ T ∈ bts, PySem.W.kitOne K (.type "NoneType") (.type T) = some (T == "NoneType")) := by
  refine ⟨?_, ?_, ?_, ?_, ?_, ?_⟩
  all_goals
    intro T hT
    unfold bts at hT
    simp only [List.mem_cons, List.not_mem_nil, or_false] at hT
    rcases hT with rfl | rfl | rfl | rfl | rfl | rfl | rfl | rfl | rfl | rfl | rfl <;> kernel_rfl
def isA (A : CtxD) : List D → (D → Prop) → Prop
  | [x, .ty T], q => match isT A x T with
    | some b => q (.bl b)
    | none => False
  | [x, .obj C], q => match isO A x C with
    | some b => q (.bl b)
    | none => False
  | _, _ => False
theorem isT_ok {A : CtxD} (h : TyOk K A) {x : D} {T : String} {b : Bool} (e : isT A x T = some b) : OkTy K x ∧ PySem.W.kitOne K (tyD x) (.type T) = some b := by
  obtain ⟨k1, k2, k3, k4, k5, k6⟩ := kits K
  have it : ∀ {c : Bool}, (if T ∈ bts then some c else none) = some b → T ∈ bts ∧ c = b := fun {c} z => by
    split at z
    · rename_i z1
      exact ⟨z1, Option.some.inj z⟩
    · cases z
  cases x with
  | ins C fs =>
    have e : (if T ∈ bts ∧ A.own C = true then some false else none) = some b := e
    split at e
    · rename_i z
      cases e
      exact ⟨h.cls C z.2, h.up C z.2 T z.1⟩
    · cases e
  | non =>
    obtain ⟨z, rfl⟩ := it e
    exact ⟨trivial, k6 T z⟩
  | bl c =>
    obtain ⟨z, rfl⟩ := it e
    exact ⟨trivial, k2 T z⟩
  | int c =>
    obtain ⟨z, rfl⟩ := it e
    exact ⟨trivial, k1 T z⟩
  | str c =>
    obtain ⟨z, rfl⟩ := it e
    exact ⟨trivial, k3 T z⟩
  | tup c =>
    obtain ⟨z, rfl⟩ := it e
    exact ⟨trivial, k4 T z⟩
  | lst c =>
    obtain ⟨z, rfl⟩ := it e
    exact ⟨trivial, k5 T z⟩
  | _ => cases e
theorem isO_ok {A : CtxD} (h : TyOk K A) {x : D} {C : Addr} {b : Bool} (e : isO A x C = some b) : OkTy K x ∧ PySem.W.kitOne K (tyD x) (.ref C) = some b := by
  have sm : ∀ {T : String} {y : Bool}, T ∈ bts → (if A.own C = true then some false else none) = some y → PySem.W.kitOne K (.type T) (.ref C) = some y := fun {T y} hT z => by
    split at z
    · rename_i z1
      cases z
      exact h.dn C z1 T hT
    · cases z
  cases x with
  | ins C' fs =>
    obtain ⟨h1, h2⟩ := h.sub C' C b e
    exact ⟨h.cls C' h1, h2⟩
  | non => exact ⟨trivial, sm (by decide) e⟩
  | bl c => exact ⟨trivial, sm (by decide) e⟩
  | int c => exact ⟨trivial, sm (by decide) e⟩
  | str c => exact ⟨trivial, sm (by decide) e⟩
  | tup c => exact ⟨trivial, sm (by decide) e⟩
  | lst c => exact ⟨trivial, sm (by decide) e⟩
  | _ => cases e
theorem sim_isA {A : CtxD} (h : TyOk K A) : SimC K (rIsi K) (isA A) := fun F H xs ds Q q s r w k => by
  refine sim_isi F H xs ds Q q s r ?_ k
  unfold isA at w
  split at w
  · split at w
    · rename_i b e
      obtain ⟨h1, h2⟩ := isT_ok h e
      exact ⟨h1, b, h2, w⟩
    · exact w.elim
  · split at w
    · rename_i b e
      obtain ⟨h1, h2⟩ := isO_ok h e
      exact ⟨h1, b, h2, w⟩
    · exact w.elim
  · exact w.elim

/-! ### own ==, != -/
def okEq (A : CtxD) (C : Addr) (y : D) : Prop := isO A y C = some false ∨ ∃ fs, y = .ins C fs ∧ A.own C = true
theorem nf_of {C : Addr} {t : Value} (h : PySem.W.kitOne K t (.ref C) = some false) : PySem.W.notFirst K C t = true := by
  unfold PySem.W.kitOne at h
  split at h
  · cases h
  · unfold PySem.W.kitCls at h
    have h : (if ((PySem.W.clsIn K C).isSome && PySem.W.typeIn K (.ref C) == some (.type "type")) = true then PySem.W.subIn K t (.ref C) else none) = some false := h
    split at h
    · unfold PySem.W.notFirst
      rw [h]
      simp
    · cases h
theorem okEq_ok {A : CtxD} (h : TyOk K A) {C : Addr} {y : D} (e : okEq A C y) : OkTy K y ∧ PySem.W.notFirst K C (tyD y) = true := by
  rcases e with e | ⟨fs, rfl, e⟩
  · obtain ⟨h1, h2⟩ := isO_ok h e
    exact ⟨h1, nf_of h2⟩
  · refine ⟨h.cls C e, ?_⟩
    unfold PySem.W.notFirst tyD
    simp
def eqO (A : CtxD) (C : Addr) (S : FS) : D → D → (D → Prop) → Prop := fun x y q => match x with
  | .ins C' _ => C' = C ∧ okEq A C y ∧ S [x, y] (fun _ => False) q
  | _ => False
theorem sim_eqO {A : CtxD} (h : TyOk K A) {C : Addr} {S : FS} {E1 : XK} : Sim2 K (rOwnEq K C (spOf K 2 S) E1) (eqO A C S) := fun F H x y d e Q q s r1 r2 w k => by
  refine sim_ownEq F H x y d e Q q s r1 r2 ?_ k
  cases d with
  | ins C' fs =>
    obtain ⟨w1, w2, w3⟩ := w
    obtain ⟨z1, z2⟩ := okEq_ok h w2
    exact ⟨w1, z1, z2, w3⟩
  | _ => exact w.elim
def neO (A : CtxD) (C : Addr) (S : FS) : D → D → (D → Prop) → Prop := fun x y q => match x with
  | .ins C' _ => C' = C ∧ okEq A C y ∧ S [x, y] (fun _ => False) fun z => match z with
    | .bl b => q (.bl (!b))
    | _ => False
  | _ => False
theorem sim_neO {A : CtxD} (h : TyOk K A) {C : Addr} {S : FS} {E1 : XK} : Sim2 K (rOwnNe K C (spOf K 2 S) E1) (neO A C S) := fun F H x y d e Q q s r1 r2 w k => by
  refine sim_ownNe F H x y d e Q q s r1 r2 ?_ k
  cases d with
  | ins C' fs =>
    obtain ⟨w1, w2, w3⟩ := w
    obtain ⟨z1, z2⟩ := okEq_ok h w2
    exact ⟨w1, z1, z2, w3⟩
  | _ => exact w.elim

/-! ### bags -/
theorem vals_nats {p q r : Nat} {its : List Value} (h : Vals [V.int p, V.int q, V.int r] its) : ∃ t u v, its = [.int p t, .int q u, .int r v] := by
  cases h with
  | cons h1 h =>
    cases h with
    | cons h2 h =>
      cases h with
      | cons h3 h =>
        cases h
        obtain ⟨t, rfl⟩ := h1
        obtain ⟨u, rfl⟩ := h2
        obtain ⟨v, rfl⟩ := h3
        exact ⟨t, u, v, rfl⟩
theorem bag_close {pins : List (Addr × Obj)} {σ : L2.St} {H : Hp} {s : Shared} {a : Addr} {p q r : Nat} (I : Inv X pins σ H s) (h : H a = some (.lst [.int p, .int q, .int r])) : Inv X pins σ (upd H a (BagO a)) s := by
  obtain ⟨its, n, rv, ho, hz⟩ := I.lst h
  obtain ⟨t, u, v, rfl⟩ := vals_nats rv
  refine inv_view I (by rw [h]; trivial) ⟨_, ho⟩ ?_
  exact ⟨⟨p, q, r, t, u, v, n, ho⟩, ⟨_, ho⟩, fun h1 h2 z k => by
    obtain ⟨p, q, r, t, u, v, n, z⟩ := z
    exact ⟨p, q, r, t, u, v, n, k _ z⟩⟩
theorem bag_open {pins : List (Addr × Obj)} {σ : L2.St} {H : Hp} {s : Shared} {a : Addr} (I : Inv X pins σ H s) (h : H a = some (BagO a)) : ∃ p q r : Nat, Inv X pins σ (upd H a (.lst [.int p, .int q, .int r])) s := by
  have x : ObjOk X.prog X.w H s.heap a (.ext (BagP a)) := I.hok a _ h
  obtain ⟨p, q, r, t, u, v, n, ho⟩ := x.1
  refine ⟨p, q, r, inv_view I (by rw [h]; trivial) ⟨_, ho⟩ ?_⟩
  exact ⟨by show 3 ≤ sizeLine; decide, _, n, .cons ⟨t, rfl⟩ (.cons ⟨u, rfl⟩ (.cons ⟨v, rfl⟩ .nil)), ho⟩
def tAsBag (te : TE) : TE := fun σ H Q => te σ H fun x H1 => ∃ (a : Addr) (p q r : Nat), x = .ref a ∧ H1 a = some (.lst [.int p, .int q, .int r]) ∧ Q (.ref a) (upd H1 a (BagO a))
theorem pe_asBag {e : Expr} {te : TE} (h : PE X e te) : PE X e (tAsBag te) := ⟨fun pins s σ H Q I w => by
  refine thn (h.run pins s σ H _ I w) fun v s1 z => ?_
  obtain ⟨x, H1, I1, r1, a, p, q, r, rfl, h1, z⟩ := z
  exact ⟨.ref a, _, bag_close I1 h1, r1, z⟩⟩
def wBag (wo : WO) : WE := fun env er q => wo env er fun l => match l with
  | [.int i, .int j, .int k] => (0 ≤ i ∧ 0 ≤ j ∧ 0 ≤ k) ∧ ∀ a, q (.bag a)
  | _ => False
theorem sim_asBag {wo : WO} (h : SimO K E te wo) : SimE K E (tAsBag te) (wBag wo) := fun B env F σ H Q er q a l w k =>
  h B env F σ H _ er _ a l w fun p xs ls F1 H1 s1 hp h1 hf r1 w1 => by
    split at w1
    case h_2 => exact w1.elim
    rename_i i j m
    obtain ⟨⟨h0, h2, h3⟩, z⟩ := w1
    obtain ⟨i, rfl⟩ := Int.eq_ofNat_of_zero_le h0
    obtain ⟨j, rfl⟩ := Int.eq_ofNat_of_zero_le h2
    obtain ⟨m, rfl⟩ := Int.eq_ofNat_of_zero_le h3
    have e : xs = [V.int (i : Nat), V.int (j : Nat), V.int (m : Nat)] := RepA.ints_inv (K := K) (F := F1) (ns := [((i : Nat) : Int), ((j : Nat) : Int), ((m : Nat) : Int)]) r1
    subst e
    exact ⟨p, i, j, m, rfl, h1, k _ _ _ _ ((s1.mut hp hf).freeze hp hf upd_same) (.bag upd_same) (z p)⟩
/-- a def's body with the bag in the slot i opened -/
def tOpen (i : Nat) (t : TS) : TS := fun Dd σ H => ∃ a : Addr, σ[i]? = some (some (.ref a)) ∧ H a = some (BagO a) ∧ ∀ p q r : Nat, t Dd σ (upd H a (.lst [.int p, .int q, .int r]))
theorem pss_open {i : Nat} {b : List Stmt} {t : TS} (h : PSs X b t) : PSs X b (tOpen i t) := ⟨fun pins s σ H Dd I w => by
  obtain ⟨a, _, h1, w⟩ := w
  obtain ⟨p, q, r, I1⟩ := bag_open I h1
  exact h.run pins s σ _ Dd I1 (w p q r)⟩
def tShut (i : Nat) (te : TE) : TE := fun σ H Q => te σ H fun x H1 => ∃ (a : Addr) (p q r : Nat), σ[i]? = some (some (.ref a)) ∧ H1 a = some (.lst [.int p, .int q, .int r]) ∧ Q x (upd H1 a (BagO a))
theorem pe_shut {i : Nat} {e : Expr} {te : TE} (h : PE X e te) : PE X e (tShut i te) := ⟨fun pins s σ H Q I w => by
  refine thn (h.run pins s σ H _ I w) fun v s1 z => ?_
  obtain ⟨x, H1, I1, r1, a, p, q, r, _, h1, z⟩ := z
  exact ⟨x, _, bag_close I1 h1, r1, z⟩⟩
theorem upd_id {H : Hp} {a : Addr} {o : HO} (h : H a = some o) : upd H a o = H := by
  funext b
  by_cases e : b = a
  · rw [e, upd_same, h]
  · rw [upd_ne e]
end
end DL
/-! DL6: the law's draw from a bag. -/
namespace DL
open PySem L2
section
variable {K : PySem.W.Frag} {E : XK} {X : Cx}
def sDraw : FS := fun ds er q => match ds with
  | [.bag _, .int w] => 0 < w ∧ w < 2 ^ 64 ∧ ∀ r : Int, 0 ≤ r → r < w → q (.int r)
  | _ => False
abbrev bIx (K : PySem.W.Frag) (i : Int) : TE := tOp (rIx K) (tVar 0) (tC (.int i))
def tDraw1 (K : PySem.W.Frag) : TS := tAsg (tOp (rAddD K) (bIx K 2) (tC (.int 1))) (gSub (tVar 0) (tC (.int 2)) rSetL)
def tDraw2 (K : PySem.W.Frag) : TS := tIfS (tTest (tOp rGtD (bIx K 0) (tC (.int 0)))) (tSeq (tAsg (tOp rModD (tCB rIntD (tCons (bIx K 0) tNil)) (tVar 1)) (gName 2)) (tSeq (tAsg (tOp rDivD (bIx K 0) (tVar 1)) (gSub (tVar 0) (tC (.int 0)) rSetL)) (tRet (tShut 0 (tVar 2))))) tNext
def tDraw3 (K : PySem.W.Frag) : TS := tAsg (tOp (rAddD K) (tCB rIntD (tCons (bIx K 1) tNil)) (tOp rMulD (tC (.int 104651)) (bIx K 2))) (gName 3)
def tDraw4 (K : PySem.W.Frag) : TS := tAsg (tOp rModD (tCB rIntD (tCons (tOp (rAddD K) (tOp (rAddD K) (tOp rMulD (tVar 3) (tOp (rAddD K) (tOp rModD (tCB rIntD (tCons (tVar 3) tNil)) (tC (.int 59999))) (tC (.int 40013)))) (tOp rMulD (tC (.int 7)) (bIx K 2))) (tC (.int 13))) tNil)) (tC (.int 2147483587))) (gSub (tVar 0) (tC (.int 1)) rSetL)
def tDraw5 (K : PySem.W.Frag) : TS := tRet (tShut 0 (tOp rModD (tOp rDivD (tCB rIntD (tCons (bIx K 1) tNil)) (tC (.int 521))) (tVar 1)))
def tDraw (K : PySem.W.Frag) : TS := tOpen 0 (tSeq (tDraw1 K) (tSeq (tDraw2 K) (tSeq (tDraw3 K) (tSeq (tDraw4 K) (tDraw5 K)))))
theorem bix {σ : L2.St} {H : Hp} {Q : VK} {a : Addr} {xs : List V} {i : Int} {v : V} (h0 : σ[0]? = some (some (.ref a))) (h : H a = some (.lst xs)) (e : atI xs i = some v) (q : Q v H) : bIx K i σ H Q :=
  ⟨.ref a, h0, .inl ⟨a, xs, i, v, rfl, rfl, SqL.of h, e, q⟩⟩
theorem bset {σ : L2.St} {H : Hp} {Q : L2.St → Hp → Prop} {a : Addr} {xs : List V} {i : Int} {j : Nat} {v : V} (h0 : σ[0]? = some (some (.ref a))) (h : H a = some (.lst xs)) (e : ixN xs.length i = some j) (q : Q σ (upd H a (.lst (xs.set j v)))) : gSub (tVar 0) (tC (.int i)) rSetL v σ H Q :=
  ⟨.ref a, h0, a, xs, i, j, rfl, rfl, h, e, q⟩
theorem draw_ok {N : List Str} {vs : List V} {H : Hp} {Q : VK} (h : spOf K 2 sDraw vs H Q E) (hN : N.length = 4) : tDraw K { nx := fun _ H' => Q .non H', rt := Q } (L2.start N vs) H := by
  obtain ⟨F, ds, er, q, hl, s, r, hS, kv, ke⟩ := h
  unfold sDraw at hS
  split at hS
  · rename_i b w
    obtain ⟨w0, w1, hq⟩ := hS
    cases r with
    | cons r1 r =>
      cases r with
      | cons r2 r =>
        cases r
        cases r2
        cases r1 with
        | bag hb =>
          have hH := s _ _ hb
          have st : L2.start N [V.ref b, .int w] = [some (.ref b), some (.int w), none, none] := by
            unfold L2.start
            rw [hN]
            rfl
          rw [st]
          have hw : CDivW 0 w := ⟨w0, by
            have : w.natAbs < 2 ^ 64 := by omega
            have := Nat.log2_lt (n := w.natAbs) (k := 64) (by omega)
            omega⟩
          have fin : ∀ (z : Int), 0 ≤ z → z < w → Q (.int z) H := fun z h1 h2 => kv.here s (.int z) (hq z h1 h2)
          have em : ∀ z : Int, 0 ≤ z % w ∧ z % w < w := fun z => ⟨Int.emod_nonneg _ (by omega), Int.emod_lt_of_pos _ w0⟩
          refine ⟨b, rfl, hH, fun p p1 p2 => ?_⟩
          have g1 : ∀ xs, (upd H b (HO.lst xs)) b = some (.lst xs) := fun xs => upd_same
          -- the count
          refine bix (v := .int p2) rfl (g1 _) rfl ?_
          refine .inl ⟨p2, 1, rfl, rfl, ?_⟩
          refine bset (j := 2) rfl (g1 _) rfl ?_
          rw [upd_upd]
          show tSeq (tDraw2 K) _ _ _ (upd H b (.lst [.int p, .int p1, .int ((p2 : Int) + 1)]))
          -- the figures
          refine bix (v := .int p) rfl (g1 _) rfl ?_
          refine ⟨_, _, rfl, rfl, _, rfl, ?_⟩
          refine ite2 (fun _ => ?_) (fun _ => ?_)
          · refine bix (v := .int p) rfl (g1 _) rfl ?_
            refine .inl ⟨_, rfl, ?_⟩
            refine ⟨_, rfl, _, _, rfl, rfl, w0, ?_⟩
            refine bix (v := .int p) rfl (g1 _) rfl ?_
            refine ⟨_, rfl, _, _, rfl, rfl, hw, ?_⟩
            refine bset (j := 0) rfl (g1 _) rfl ?_
            rw [upd_upd]
            obtain ⟨m, hm⟩ := Int.eq_ofNat_of_zero_le (Int.ediv_nonneg (Int.natCast_nonneg p) (Int.le_of_lt w0))
            refine ⟨_, rfl, b, m, p1, p2 + 1, rfl, ?_, ?_⟩
            · rw [g1]
              show some (HO.lst [V.int ((p : Int) / w), V.int p1, V.int ((p2 : Int) + 1)]) = _
              rw [hm]
              rfl
            · rw [upd_upd, upd_id hH]
              exact fin _ (em _).1 (em _).2
          · refine bix (v := .int p1) rfl (g1 _) rfl ?_
            refine .inl ⟨_, rfl, ?_⟩
            refine bix (v := .int ((p2 : Int) + 1)) rfl (g1 _) rfl ?_
            refine .inl ⟨_, _, rfl, rfl, .inl (by decide), ?_⟩
            refine .inl ⟨_, _, rfl, rfl, ?_⟩
            show tSeq (tDraw4 K) _ _ [some (.ref b), some (.int w), none, some (.int ((p1 : Int) + 104651 * ((p2 : Int) + 1)))] _
            generalize ((p1 : Int) + 104651 * ((p2 : Int) + 1)) = z
            refine ⟨_, rfl, _, rfl, .inl ⟨_, rfl, ?_⟩⟩
            have k1 : 0 ≤ z % 59999 ∧ z % 59999 < 59999 := ⟨Int.emod_nonneg _ (by decide), Int.emod_lt_of_pos _ (by decide)⟩
            refine ⟨_, _, rfl, rfl, (show (0 : Int) < _ by decide), ?_⟩
            refine .inl ⟨_, _, rfl, rfl, ?_⟩
            refine .inl ⟨_, _, rfl, rfl, .inr (by omega), ?_⟩
            refine bix (v := .int ((p2 : Int) + 1)) rfl (g1 _) rfl ?_
            refine .inl ⟨_, _, rfl, rfl, .inl (by decide), ?_⟩
            refine .inl ⟨_, _, rfl, rfl, ?_⟩
            refine .inl ⟨_, _, rfl, rfl, ?_⟩
            refine .inl ⟨_, rfl, ?_⟩
            refine ⟨_, _, rfl, rfl, (show (0 : Int) < _ by decide), ?_⟩
            refine bset (j := 1) rfl (g1 _) rfl ?_
            rw [upd_upd]
            obtain ⟨m, hm⟩ := Int.eq_ofNat_of_zero_le (Int.emod_nonneg (z * (z % 59999 + 40013) + 7 * ((p2 : Int) + 1) + 13) (b := 2147483587) (by decide))
            show tDraw5 K _ _ (upd H b (.lst [.int p, .int ((z * (z % 59999 + 40013) + 7 * ((p2 : Int) + 1) + 13) % 2147483587), .int ((p2 : Int) + 1)]))
            rw [hm]
            show tDraw5 K _ _ (upd H b (.lst [.int p, .int m, .int ((p2 : Int) + 1)]))
            refine bix (v := .int m) rfl (g1 _) rfl ?_
            refine .inl ⟨_, rfl, ?_⟩
            refine ⟨_, _, rfl, rfl, ⟨by decide, by decide +kernel⟩, ?_⟩
            refine ⟨_, rfl, _, _, rfl, rfl, w0, ?_⟩
            refine ⟨b, p, m, p2 + 1, rfl, ?_, ?_⟩
            · rw [g1]
              rfl
            · rw [upd_upd, upd_id hH]
              exact fin _ (em _).1 (em _).2
  · exact hS.elim
end
end DL
namespace DL
open PySem L2
section
variable {K : PySem.W.Frag} {E E1 : XK} {ta : TE} {wa : WE} {X : Cx}
/-! ### calls that raise nothing -/
def wMeth0 (C : Addr) (m : Str) (n : Nat) (S : FS) (dd : List D) (wa : WE) (wr : WA) : WE := fun env er q => wa env er fun o => match o with
  | .ins C' fs => C' = C ∧ fs.lookup m = none ∧ wr env er fun ds => (o :: (ds ++ dd)).length = n ∧ S (o :: (ds ++ dd)) (fun _ => False) q
  | _ => False
theorem sim_meth0 {C : Addr} {m : Str} {n : Nat} {S : FS} {dvs : List V} {dd : List D} {t : TA} {w : WA} (hd : ∀ F, RepA K F dvs dd) (ho : SimE K E ta wa) (ha : SimA K E t w) : SimE K E (tMeth C m (spOf K n S) dvs E1 ta t) (wMeth0 C m n S dd wa w) := fun B env F σ H Q er q a l w k =>
  ho B env F σ H _ er _ a l w fun x d F1 H1 s1 r1 w1 => by
    cases r1 with
    | @ins p C' dx xs fs h1 h2 =>
      obtain ⟨e1, e2, w2⟩ := w1
      subst e1
      refine ⟨p, dx, xs, rfl, s1.fh _ _ h1, h2.none e2, ha B env F1 σ H1 _ er _ (a.step s1) l w2 fun ys ds F2 H2 s2 r2 w3 => ?_⟩
      exact ⟨F2, _, _, q, w3.1, s2.fh, .cons ((Rep.ins h1 h2).mono s2.ff) (r2.app (hd F2)), w3.2, k.step (s1.trans s2), EL.no⟩
    | _ => exact w1.elim
def wMethN0 (C : Addr) (m : Str) (mm p : Nat) (S : FS) (g : List D → List D → List D) (wa : WE) (wk : WA) : WE := fun env er q => wa env er fun o => match o with
  | .ins C' fs => C' = C ∧ fs.lookup m = none ∧ wk env er fun zs => zs.length = mm ∧ (g [o] zs).length = p ∧ S (g [o] zs) (fun _ => False) q
  | _ => False
theorem sim_methN0 {C : Addr} {m : Str} {mm p : Nat} {S : FS} {gV : List V → List V → List V} {g : List D → List D → List D} {tk : TA} {wk : WA} (hg : ∀ F vs ds us zs, RepA K F vs ds → RepA K F us zs → RepA K F (gV vs us) (g ds zs)) (ho : SimE K E ta wa) (hk : SimA K E tk wk) :
    SimE K E (tMethN C m 0 mm (spOf K p S) gV E1 ta tNil tk) (wMethN0 C m mm p S g wa wk) := fun B env F σ H Q er q a l w k =>
  ho B env F σ H _ er _ a l w fun x d F1 H1 s1 r1 w1 => by
    cases r1 with
    | @ins b C' dx xs fs h1 h2 =>
      obtain ⟨e1, e2, w2⟩ := w1
      subst e1
      refine ⟨b, dx, xs, rfl, s1.fh _ _ h1, h2.none e2, hk B env F1 σ H1 _ er _ (a.step s1) l w2 fun ys zs F2 H2 s2 r2 w3 => ?_⟩
      exact ⟨rfl, by rw [r2.len]; exact w3.1, F2, _, _, q, w3.2.1, s2.fh, hg F2 _ _ _ _ (.one ((Rep.ins h1 h2).mono s2.ff)) r2, w3.2.2, k.step (s1.trans s2), EL.no⟩
    | _ => exact w1.elim
def wCallN0 (n m p : Nat) (S : FS) (g : List D → List D → List D) (wa wk : WA) : WE := fun env er q => wa env er fun ds => wk env er fun zs => ds.length = n ∧ zs.length = m ∧ (g ds zs).length = p ∧ S (g ds zs) (fun _ => False) q
theorem sim_callN0 {n m p : Nat} {S : FS} {gV : List V → List V → List V} {g : List D → List D → List D} {t tk : TA} {w wk : WA} (hg : ∀ F vs ds us zs, RepA K F vs ds → RepA K F us zs → RepA K F (gV vs us) (g ds zs)) (ha : SimA K E t w) (hk : SimA K E tk wk) :
    SimE K E (tCallN n m (spOf K p S) gV E1 t tk) (wCallN0 n m p S g w wk) := fun B env F σ H Q er q a l w k =>
  ha B env F σ H _ er _ a l w fun xs ds F1 H1 s1 r1 w1 => hk B env F1 σ H1 _ er _ (a.step s1) l w1 fun ys zs F2 H2 s2 r2 w2 =>
    ⟨by rw [r1.len]; exact w2.1, by rw [r2.len]; exact w2.2.1, F2, g ds zs, _, q, w2.2.2.1, s2.fh, hg F2 _ _ _ _ (RepA.mono s2.ff r1) r2, w2.2.2.2, k.step (s1.trans s2), EL.no⟩
def wMakeK0 (C : Addr) (m n : Nat) (S : IS) (g : List D → List D) (wk : WA) : WE := fun env er q => wk env er fun zs => zs.length = m ∧ (g zs).length = n ∧ S (g zs) (fun _ => False) fun fs => q (.ins C fs)
theorem sim_makeK0 {C : Addr} {m n : Nat} {S : IS} {gV : List V → List V → List V} {gW : List V → List V} {g : List D → List D} {tk : TA} {w : WA} (hv : ∀ x zs, gV [x] zs = x :: gW zs) (hg : ∀ F us zs, RepA K F us zs → RepA K F (gW us) (g zs)) (hk : SimA K E tk w) :
    SimE K E (tMakeK C 0 m (spInit K C n S) gV E1 tNil tk) (wMakeK0 C m n S g w) := fun B env F σ H Q er q a l w k =>
  hk B env F σ H _ er _ a l w fun xs ds F1 H1 s1 r1 w1 => ⟨rfl, by rw [r1.len]; exact w1.1, fun x dx hx hdx hne => by
    rw [hv]
    exact init_run s1.fh (hg F1 _ _ r1) w1.2.1 w1.2.2 (k.step s1) EL.no x dx hx hdx hne⟩

/-! ### keywords, in the parameters' order -/
def perm {α : Type} (p : List Nat) (l : List α) : List α := p.filterMap fun i => l[i]?
def pmA {α : Type} (p : List Nat) (vs zs : List α) : List α := vs ++ perm p zs
theorem perm_rep {F : Hp} {us : List V} {zs : List D} (h : RepA K F us zs) : ∀ p : List Nat, RepA K F (perm p us) (perm p zs)
  | [] => .nil
  | i :: p => by
    unfold perm
    rw [List.filterMap_cons, List.filterMap_cons]
    cases e : us[i]? with
    | none =>
      have e2 : zs[i]? = none := by
        rw [List.getElem?_eq_none_iff] at e ⊢
        rw [← h.len]
        exact e
      rw [e2]
      exact perm_rep h p
    | some x =>
      obtain ⟨y, e2, r⟩ := h.get e
      rw [e2]
      exact .cons r (perm_rep h p)
theorem pm_ok (p : List Nat) : ∀ (F : Hp) (vs : List V) (ds : List D) (us : List V) (zs : List D), RepA K F vs ds → RepA K F us zs → RepA K F (pmA p vs us) (pmA p ds zs) := fun _ _ _ _ _ h g => h.app (perm_rep g p)
theorem pw_ok (p : List Nat) : ∀ (F : Hp) (us : List V) (zs : List D), RepA K F us zs → RepA K F (perm p us) (perm p zs) := fun _ _ _ g => perm_rep g p
theorem pw_hv (p : List Nat) (x : V) (zs : List V) : pmA p [x] zs = x :: perm p zs := rfl
theorem vals_get : ∀ {us : List V} {zs : List Value} {i : Nat}, Vals us zs → (us[i]? = none ∧ zs[i]? = none) ∨ ∃ x y, us[i]? = some x ∧ zs[i]? = some y ∧ RelV x y
  | [], _, i, .nil => .inl ⟨rfl, rfl⟩
  | _ :: _, _, 0, .cons h _ => .inr ⟨_, _, rfl, rfl, h⟩
  | _ :: _, _, i + 1, .cons _ r => by
    rw [List.getElem?_cons_succ, List.getElem?_cons_succ]
    exact vals_get r
theorem perm_vals {us : List V} {zs : List Value} (h : Vals us zs) : ∀ p : List Nat, Vals (perm p us) (perm p zs)
  | [] => .nil
  | i :: p => by
    unfold perm
    rw [List.filterMap_cons, List.filterMap_cons]
    rcases vals_get (i := i) h with ⟨e1, e2⟩ | ⟨x, y, e1, e2, r⟩
    · rw [e1, e2]
      exact perm_vals h p
    · rw [e1, e2]
      exact .cons r (perm_vals h p)
theorem kb_perm {x qual : Str} {st : Stmt} {f : Addr} {fd : FuncData} {ps : List Str} (F : Fun K x qual st f fd) (n : Nat) (ks : List Str) (p : List Nat)
    (h : ∀ (kV doc pm : Value) (an : Option Addr) (cdv ct : Value) (us ws : List Value), us.length = n → ws.length = ks.length → bindArgs (PySem.W.fnOf x qual (defArgs st) (defBody st) (defScope st) .none kV doc pm an cdv ct) ⟨us, ks.zip ws⟩ = pure (ps.zip (pmA p us ws))) :
    KBn K fd ps n ks (pmA p) (pmA p) := kb_of F n ks (fun {α} => pmA (α := α) p) (fun h1 h2 => h1.append (perm_vals h2 p)) h
theorem passN {P : Program} {w : World} : Passes (L2.CX P w) X E0 := fun _ _ _ _ _ _ _ ⟨_, _, _, _, _, _, _, _, _, _, _, _, h⟩ => h.elim
theorem hu64 {k : Nat} {A : Around} (hr : Room k A) : A.units + 64 < cLine := by
  have := hr.un
  omega
end
theorem bt_int : bootBuiltins "int" = some (.type "int") := by kernel_rfl
theorem bt_bool : bootBuiltins "bool" = some (.type "bool") := by kernel_rfl
theorem bt_str : bootBuiltins "str" = some (.type "str") := by kernel_rfl
theorem bt_tuple : bootBuiltins "tuple" = some (.type "tuple") := by kernel_rfl
theorem bt_list : bootBuiltins "list" = some (.type "list") := by kernel_rfl
theorem bt_dict : bootBuiltins "dict" = some (.type "dict") := by kernel_rfl
theorem bt_float : bootBuiltins "float" = some (.type "float") := by kernel_rfl
theorem bt_set : bootBuiltins "set" = some (.type "set") := by kernel_rfl
theorem bt_bytes : bootBuiltins "bytes" = some (.type "bytes") := by kernel_rfl
theorem bt_type : bootBuiltins "type" = some (.type "type") := by kernel_rfl
theorem bt_len : bootBuiltins "len" = some (.builtin "len") := by kernel_rfl
theorem bt_all : bootBuiltins "all" = some (.builtin "all") := by kernel_rfl
theorem bt_any : bootBuiltins "any" = some (.builtin "any") := by kernel_rfl
theorem bt_abs : bootBuiltins "abs" = some (.builtin "abs") := by kernel_rfl
theorem bt_max : bootBuiltins "max" = some (.builtin "max") := by kernel_rfl
theorem bt_min : bootBuiltins "min" = some (.builtin "min") := by kernel_rfl
theorem bt_sum : bootBuiltins "sum" = some (.builtin "sum") := by kernel_rfl
theorem bt_isinstance : bootBuiltins "isinstance" = some (.builtin "isinstance") := by kernel_rfl
theorem bt_sorted : bootBuiltins "sorted" = some (.builtin "sorted") := by kernel_rfl
theorem bt_repr : bootBuiltins "repr" = some (.builtin "repr") := by kernel_rfl
theorem bt_zip : bootBuiltins "zip" = some (.type "zip") := by kernel_rfl
theorem bt_enumerate : bootBuiltins "enumerate" = some (.type "enumerate") := by kernel_rfl
end DL
/-! DL7: data that is equal to itself; the law's own promise; the end. -/
namespace DL
open PySem L2
/-! ### what may be compared -/
def okL (n : Nat) (d : D) : Prop := ∃ p, pd d = some p ∧ p.canLay0 = true ∧ p.depth ≤ n
theorem okL.up {n m : Nat} {d : D} (h : okL n d) (e : n ≤ m) : okL m d := by
  obtain ⟨p, h1, h2, h3⟩ := h
  exact ⟨p, h1, h2, Nat.le_trans h3 e⟩
theorem okL_int (i : Int) : okL 0 (.int i) := ⟨_, rfl, rfl, Nat.le_refl _⟩
theorem okL_bl (b : Bool) : okL 0 (.bl b) := ⟨_, rfl, rfl, Nat.le_refl _⟩
theorem okL_non : okL 0 .non := ⟨_, rfl, rfl, Nat.le_refl _⟩
theorem okL_all {n : Nat} : ∀ {l : List D}, (∀ x ∈ l, okL n x) → ∃ ps, pdA l = some ps ∧ PyData.canLayAll0 ps = true ∧ PyData.depthAll ps ≤ n
  | [], _ => ⟨[], rfl, rfl, Nat.zero_le _⟩
  | d :: l, h => by
    obtain ⟨p, h1, h2, h3⟩ := h d (by simp)
    obtain ⟨ps, k1, k2, k3⟩ := okL_all (l := l) fun x hx => h x (by simp [hx])
    refine ⟨p :: ps, ?_, ?_, ?_⟩
    · unfold pdA
      rw [h1, k1]
    · show (PyData.canLay0 p && PyData.canLayAll0 ps) = true
      rw [h2, k2]
      rfl
    · show max (PyData.depth p) (PyData.depthAll ps) ≤ n
      omega
theorem okL_tup {n : Nat} {l : List D} (h : ∀ x ∈ l, okL n x) : okL (n + 1) (.tup l) := by
  obtain ⟨ps, k1, k2, k3⟩ := okL_all h
  refine ⟨.tuple ps, ?_, k2, Nat.succ_le_succ k3⟩
  unfold pd
  rw [k1]
  rfl
theorem okL_lst {n : Nat} {l : List D} (h : ∀ x ∈ l, okL n x) : okL (n + 1) (.lst l) := by
  obtain ⟨ps, k1, k2, k3⟩ := okL_all h
  refine ⟨.list ps, ?_, k2, Nat.succ_le_succ k3⟩
  unfold pd
  rw [k1]
  rfl
theorem okL_ints (l : List Int) : okL 1 (.tup (l.map .int)) := okL_tup fun x hx => by
  obtain ⟨i, _, rfl⟩ := List.mem_map.mp hx
  exact okL_int i
theorem okL_intl (l : List Int) : okL 1 (.lst (l.map .int)) := okL_lst fun x hx => by
  obtain ⟨i, _, rfl⟩ := List.mem_map.mp hx
  exact okL_int i
theorem okD_of {n : Nat} {d : D} (h : okL n d) (e : n ≤ 64) : okD d := by
  obtain ⟨p, h1, h2, h3⟩ := h
  unfold okD
  rw [h1]
  show (p.canLay0 && decide (p.depth ≤ 64)) = true
  rw [h2, decide_eq_true (Nat.le_trans h3 e)]
  rfl
theorem eqD_refl {n : Nat} {d : D} (h : okL n d) : eqD d d = true := by
  obtain ⟨p, h1, h2, _⟩ := h
  unfold eqD
  rw [h1]
  exact SeqAt.eqv_refl p h2
theorem okD_int (i : Int) : okD (.int i) := okD_of (okL_int i) (by decide)
theorem okD_bl (b : Bool) : okD (.bl b) := okD_of (okL_bl b) (by decide)
theorem okD_non : okD .non := okD_of okL_non (by decide)
theorem eqD_int (i j : Int) : eqD (.int i) (.int j) = (i == j) := by
  show PyData.eqv (.int i) (.int j) = _
  simp [PyData.eqv]
theorem eqD_bl (i j : Bool) : eqD (.bl i) (.bl j) = (i == j) := by
  show PyData.eqv (.bool i) (.bool j) = _
  simp [PyData.eqv]
/-- != of equal data -/
theorem ne_same {n : Nat} {d : D} {q : D → Prop} (h : okL n d) (e : n ≤ 64) (z : q (.bl false)) : dNe d d q := by
  refine ⟨okD_of h e, okD_of h e, ?_⟩
  rw [eqD_refl h]
  exact z
theorem eq_same {n : Nat} {d : D} {q : D → Prop} (h : okL n d) (e : n ≤ 64) (z : q (.bl true)) : dEq d d q := by
  refine ⟨okD_of h e, okD_of h e, ?_⟩
  rw [eqD_refl h]
  exact z

/-! ### the law's promise, the end -/
def sLawD : FS := fun ds _ q => ∃ ns : List Int, ds = [.scr ns] ∧ ns.length ≤ 63 ∧ q (.bl true)
theorem sp_law {K : PySem.W.Frag} {H : Hp} {a : Addr} {ns : List Int} (hl : ns.length ≤ 63) (h : SqL K H a (ns.map V.int)) : spOf K 1 sLawD [.ref a] H (fun v _ => v = .bl true) fun _ _ _ => False := by
  refine ⟨H, [.scr ns], fun _ => False, fun d => d = .bl true, rfl, Same.refl H, .one (.scr h), ⟨ns, rfl, hl, rfl⟩, fun x d F' H' _ r e => ?_, EL.no⟩
  subst e
  cases r
  rfl
open PySem.Spec PyProof.Rows
theorem walkD {l : PySem.W.OpenLaw} {k : Nat} {x : Str} {q : Program} {loose : List Str} {XP : (Str → Option Value) → Heap → Prop} {YP : World → Heap → Prop} {d : DefRec} {K : Params → PySem.W.Frag} (hn : l.most = some 63) (hdf : d.params.defaults = []) (hr : Room k callerA)
    (hY : ∀ (w : World) (h : Heap), YP w h → (K w.params).In h)
    (F : ∀ (w : World) (mg : Str → Option Value) (fa : Addr) (h : Heap), (K w.params).In h → h.Ns mainGlobals mg → mg d.name = some (.ref fa) →
      ∃ fd : FuncData, (∀ (s : Shared) (u : Value), BindsTo s fd ⟨[u], []⟩ [(x, u)]) ∧ ∀ base : Heap, (K w.params).In base → base.Ns mainGlobals mg → FnOk l.prog w (K w.params) mg base (L2.CX l.prog w) k fa fd [x] (spOf (K w.params) 1 sLawD)) :
    PySem.W.WalkO q loose XP YP l.row.toRowW d [] (fun f vs => PySem.call f vs) :=
  L2.walk_of (n := 63) (k := k) (x := x) (CX := fun w => L2.CX l.prog w) (sp := fun w => spOf (K w.params) 1 sLawD) hn (by decide) hdf hr hY F (fun w H a ns hl _ hS => sp_law hl hS) fun _ _ _ _ _ ⟨_, _, _, _, _, _, _, _, _, _, _, _, h⟩ => h
end DL
namespace DL
/-! ### comprehensions and loops that are plain -/
theorem comp_ok {α : Type} {c : α → D} {g : D → EV → (EV → Prop) → Prop} {wt : WT} {we : WE} {ew : EV} {er : ER} {q : List D → Prop} {ev : α → EV} {p : α → Bool} {f : α → D} : ∀ {l : List α} {acc : List D}, (∀ x ∈ l, ∀ Q : EV → Prop, Q (ev x) → g (c x) ew Q) → (∀ x ∈ l, ∀ Q : Bool → Prop, Q (p x) → wt (ev x) er Q) →
    (∀ x ∈ l, p x = true → ∀ Q : D → Prop, Q (f x) → we (ev x) er Q) → acc.length + l.length ≤ PySem.sizeLine → q (acc ++ (l.filter p).map f) → wComp g wt we ew er q (l.map c) acc
  | [], acc, _, _, _, _, z => by
    simp at z
    exact z
  | x :: l, acc, h1, h2, h3, h4, z => by
    refine h1 x (by simp) _ (h2 x (by simp) _ ⟨fun e => h3 x (by simp) e _ ⟨?_, ?_⟩, fun e => ?_⟩)
    · rw [List.length_cons] at h4
      omega
    · refine comp_ok (ev := ev) (p := p) (f := f) (fun y hy => h1 y (by simp [hy])) (fun y hy => h2 y (by simp [hy])) (fun y hy => h3 y (by simp [hy])) ?_ ?_
      · rw [List.length_append]
        rw [List.length_cons] at h4
        show acc.length + 1 + l.length ≤ _
        omega
      · rw [List.filter_cons, if_pos e] at z
        simpa using z
    · refine comp_ok (ev := ev) (p := p) (f := f) (fun y hy => h1 y (by simp [hy])) (fun y hy => h2 y (by simp [hy])) (fun y hy => h3 y (by simp [hy])) ?_ ?_
      · rw [List.length_cons] at h4
        omega
      · rw [List.filter_cons, if_neg (by rw [e]; exact Bool.false_ne_true)] at z
        exact z
theorem comp_map {α : Type} {c : α → D} {g : D → EV → (EV → Prop) → Prop} {we : WE} {ew : EV} {er : ER} {q : List D → Prop} {ev : α → EV} {f : α → D} {l : List α} (h1 : ∀ x ∈ l, ∀ Q : EV → Prop, Q (ev x) → g (c x) ew Q)
    (h3 : ∀ x ∈ l, ∀ Q : D → Prop, Q (f x) → we (ev x) er Q) (h4 : l.length ≤ PySem.sizeLine) (z : q (l.map f)) : wComp g wYes we ew er q (l.map c) [] :=
  comp_ok (p := fun _ => true) (ev := ev) (f := f) h1 (fun _ _ _ h => h) (fun x hx _ => h3 x hx) (by simpa using h4) (by
    have e : l.filter (fun _ => true) = l := List.filter_eq_self.mpr fun _ _ => rfl
    rw [List.nil_append, e]
    exact z)
theorem rngD_eq (lo : Int) (n : Nat) : rngD lo n = (List.range' 0 n).map fun (i : Nat) => D.int (lo + i) := by
  unfold rngD
  rw [List.range_eq_range']
theorem bools_map {α : Type} (f : α → Bool) : ∀ l : List α, bools (l.map fun x => D.bl (f x)) = some (l.map f)
  | [] => rfl
  | x :: l => by
    rw [List.map_cons]
    unfold bools
    rw [bools_map f l]
    rfl
theorem all_map {α : Type} (f : α → Bool) (l : List α) (q : D → Prop) (h : q (.bl (l.all f))) : lAll (l.map fun x => D.bl (f x)) q := by
  unfold lAll
  rw [bools_map]
  simpa [List.all_map] using h
theorem any_map {α : Type} (f : α → Bool) (l : List α) (q : D → Prop) (h : q (.bl (l.any f))) : lAny (l.map fun x => D.bl (f x)) q := by
  unfold lAny
  rw [bools_map]
  simpa [List.any_map] using h
theorem atD_nat {α : Type} {xs : List α} {n : Nat} : atD xs (n : Int) = xs[n]? := by
  unfold atD L2.ixN
  by_cases h : n < xs.length
  · simp [h]
  · simp [h]
theorem atD_last {α : Type} {xs : List α} {x : α} : atD (xs ++ [x]) (-1) = some x := by
  have e : L2.ixN (xs ++ [x]).length (-1) = some xs.length := by
    unfold L2.ixN
    rw [if_neg (by decide), if_pos (by simp; omega)]
    simp
    omega
  unfold atD
  rw [e]
  simp
theorem atD_last2 {α : Type} {xs : List α} {x y : α} : atD (xs ++ [y, x]) (-2) = some y := by
  have e : L2.ixN (xs ++ [y, x]).length (-2) = some xs.length := by
    unfold L2.ixN
    rw [if_neg (by decide), if_pos (by simp; omega)]
    simp
    omega
  unfold atD
  rw [e]
  simp
theorem cutD_to {α : Type} {xs : List α} {n : Nat} : cutD xs none (some (n : Int)) = xs.take n := by
  unfold cutD
  rw [HT.sIx_nat, HT.sIx_none]
  simp
theorem atD_0 {α : Type} {a : α} {l : List α} : atD (a :: l) 0 = some a := atD_nat (n := 0)
theorem atD_1 {α : Type} {a b : α} {l : List α} : atD (a :: b :: l) 1 = some b := atD_nat (n := 1)
theorem atD_2 {α : Type} {a b c : α} {l : List α} : atD (a :: b :: c :: l) 2 = some c := atD_nat (n := 2)
theorem atD_3 {α : Type} {a b c d : α} {l : List α} : atD (a :: b :: c :: d :: l) 3 = some d := atD_nat (n := 3)
theorem all_yes {α : Type} (l : List α) : l.all (fun _ => true) = true := List.all_eq_true.mpr fun _ _ => rfl
/-! ### isinstance over own classes, from their lines of descent -/
def mroL (ups : List PySem.Addr) (tys : List String) : List PySem.Value := ups.map .ref ++ tys.map .type
structure OwnM (K : PySem.W.Frag) (C : PySem.Addr) (ups : List PySem.Addr) (tys : List String) : Prop where
  ci : ∃ cd, PySem.W.clsIn K C = some cd ∧ cd.mro = mroL ups tys
  me : ups.head? = some C
  ob : "object" ∈ tys
  no : ∀ T ∈ bts, T ∉ tys
  tp : PySem.W.typeIn K (.ref C) = some (.type "type")
def cdOf (cs : List (PySem.Addr × List PySem.Addr)) : CtxD where
  own := fun C => (cs.lookup C).isSome
  sub := fun C D => match cs.lookup C with
    | some up => if (cs.lookup D).isSome = true then some (up.contains D) else none
    | none => none
section
open PySem
variable {K : PySem.W.Frag} {C D : Addr} {ups upd : List Addr} {tys tyd : List String}
theorem mroL_ref : (mroL ups tys).contains (.ref D) = ups.contains D := by
  unfold mroL
  rw [Bool.eq_iff_iff, List.contains_iff_mem, List.contains_iff_mem, List.mem_append, List.mem_map, List.mem_map]
  constructor
  · rintro (⟨a, h, e⟩ | ⟨a, _, e⟩)
    · cases e
      exact h
    · cases e
  · exact fun h => .inl ⟨D, h, rfl⟩
theorem mroL_ty {T : String} : (mroL ups tys).contains (.type T) = tys.contains T := by
  unfold mroL
  rw [Bool.eq_iff_iff, List.contains_iff_mem, List.contains_iff_mem, List.mem_append, List.mem_map, List.mem_map]
  constructor
  · rintro (⟨a, _, e⟩ | ⟨a, h, e⟩)
    · cases e
    · cases e
      exact h
  · exact fun h => .inr ⟨T, h, rfl⟩
theorem OwnM.mro (h : OwnM K C ups tys) (b : Value) : PySem.W.mroIn K C b = some ((mroL ups tys).contains b) := by
  obtain ⟨cd, e, e2⟩ := h.ci
  have ne : (mroL ups tys).isEmpty = false := by
    have := h.me
    cases ups with
    | nil => cases this
    | cons a l => rfl
  unfold PySem.W.mroIn
  rw [e, Option.bind_some, e2, ne]
  rfl
theorem OwnM.object (h : OwnM K C ups tys) : PySem.W.mroIn K C (.type "object") = some true := by
  rw [h.mro, mroL_ty]
  exact congrArg some (List.contains_iff_mem.mpr h.ob)
theorem OwnM.up (h : OwnM K C ups tys) {T : String} (hT : T ∈ bts) : PySem.W.kitOne K (.ref C) (.type T) = some false := by
  have e : PySem.W.kitMeta T = true := by
    have hT := hT
    unfold bts at hT
    simp only [List.mem_cons, List.not_mem_nil, or_false] at hT
    rcases hT with rfl | rfl | rfl | rfl | rfl | rfl | rfl | rfl | rfl | rfl | rfl <;> kernel_rfl
  unfold PySem.W.kitOne
  rw [if_neg (by intro z; cases (beq_iff_eq.mp z))]
  show (if PySem.W.kitMeta T = true then PySem.W.subIn K (.ref C) (.type T) else none) = _
  rw [if_pos e]
  show PySem.W.mroIn K C (.type T) = _
  rw [h.mro, mroL_ty]
  have := h.no T hT
  simpa using this
theorem OwnM.dn (h : OwnM K C ups tys) {T : String} (hT : T ∈ bts) : PySem.W.kitOne K (.type T) (.ref C) = some false := by
  obtain ⟨cd, e, _⟩ := h.ci
  unfold PySem.W.kitOne
  rw [if_neg (by intro z; cases (beq_iff_eq.mp z))]
  show (if ((PySem.W.clsIn K C).isSome && PySem.W.typeIn K (.ref C) == some (.type "type")) = true then PySem.W.subIn K (.type T) (.ref C) else none) = _
  rw [e, h.tp, if_pos (by simp)]
  unfold bts at hT
  simp only [List.mem_cons, List.not_mem_nil, or_false] at hT
  rcases hT with rfl | rfl | rfl | rfl | rfl | rfl | rfl | rfl | rfl | rfl | rfl <;> kernel_rfl
theorem OwnM.sub (h : OwnM K C ups tys) (g : OwnM K D upd tyd) : PySem.W.kitOne K (.ref C) (.ref D) = some (ups.contains D) := by
  obtain ⟨cd, e, _⟩ := g.ci
  unfold PySem.W.kitOne
  by_cases z : C = D
  · subst z
    rw [if_pos (by simp)]
    have : C ∈ ups := List.mem_of_mem_head? h.me
    rw [List.contains_iff_mem.mpr this]
  · rw [if_neg (by intro y; cases (beq_iff_eq.mp y); exact z rfl)]
    show (if ((PySem.W.clsIn K D).isSome && PySem.W.typeIn K (.ref D) == some (.type "type")) = true then PySem.W.subIn K (.ref C) (.ref D) else none) = _
    rw [e, g.tp, if_pos (by simp)]
    show PySem.W.mroIn K C (.ref D) = _
    rw [h.mro, mroL_ref]
theorem lookup_in {cs : List (Addr × List Addr)} {u : List Addr} (h : cs.lookup C = some u) : (C, u) ∈ cs := by
  induction cs with
  | nil => cases h
  | cons p cs ih =>
    obtain ⟨a, v⟩ := p
    rw [List.lookup_cons] at h
    cases e : C == a with
    | true =>
      rw [e] at h
      cases h
      rw [beq_iff_eq.mp e]
      exact List.mem_cons_self
    | false =>
      rw [e] at h
      exact List.mem_cons_of_mem _ (ih h)
theorem tyOk_of {cs : List (Addr × List Addr)} (h : ∀ p ∈ cs, OwnC K p.1 ∧ ∃ tys, OwnM K p.1 p.2 tys) : TyOk K (cdOf cs) := by
  have get : ∀ C, (cdOf cs).own C = true → ∃ u, cs.lookup C = some u := fun C e => Option.isSome_iff_exists.mp e
  refine ⟨fun C e => ?_, fun C e T hT => ?_, fun C e T hT => ?_, fun C D b e => ?_⟩
  · obtain ⟨u, e⟩ := get C e
    exact (h _ (lookup_in e)).1
  · obtain ⟨u, e⟩ := get C e
    obtain ⟨_, tys, m⟩ := h _ (lookup_in e)
    exact m.up hT
  · obtain ⟨u, e⟩ := get C e
    obtain ⟨_, tys, m⟩ := h _ (lookup_in e)
    exact m.dn hT
  · unfold cdOf at e
    have e : (match cs.lookup C with | some up => if (cs.lookup D).isSome = true then some (up.contains D) else none | none => none) = some b := e
    cases e1 : cs.lookup C with
    | none =>
      rw [e1] at e
      cases e
    | some u =>
      rw [e1] at e
      have e : (if (cs.lookup D).isSome = true then some (u.contains D) else none) = some b := e
      split at e
      · rename_i z
        obtain ⟨v, e2⟩ := Option.isSome_iff_exists.mp z
        obtain ⟨_, t1, m1⟩ := h _ (lookup_in e1)
        obtain ⟨_, t2, m2⟩ := h _ (lookup_in e2)
        refine ⟨?_, (m1.sub m2).trans e⟩
        show (cs.lookup C).isSome = true
        rw [e1]
        rfl
      · cases e
end
end DL
namespace Lw
open PySem L2 DL
structure Ad where
  c_ShapeError : PySem.Addr
  c_InvalidStep : PySem.Addr
  c_InvalidNumber : PySem.Addr
  c_InvalidDigits : PySem.Addr
  c_System : PySem.Addr
def cd (A : Ad) : CtxD := cdOf [(A.c_System, [A.c_System])]
/-! ### the numbers of a system -/
/-- the unit before, the unit -/
def pr (k : Int) : Nat → Int × Int
  | 0 => (1, 1)
  | n + 1 => ((pr k n).2, k * (pr k n).2 + (pr k n).1)
def un (k : Int) (n : Nat) : Int := (pr k n).2
def unL (k : Int) (n : Nat) : List Int := (List.range n).map (un k)
def gd : List Int → Int → List Int
  | [], _ => []
  | u :: us, r => (r / u) :: gd us (r % u)
/-- the digits of m by the first j units -/
def dg (k : Int) (m : Int) (j : Nat) : List Int := gd (unL k j).reverse m
/-- what the digits tell, from the last one -/
def nv (k : Int) : Int → Int → Int → List Int → Int
  | f, _, _, [] => f
  | f, b, u, d :: r => nv k (f + d * u) u (k * u + b) r
def Lim (k m : Int) (j : Nat) : Prop := (∀ i, i < j → un k i ≤ m) ∧ m < un k j
def pairOk (k : Int) (l : List Int) (i : Nat) : Bool := (match l[i]? with | some d => decide (d < k) | none => false) || (match l[i + 1]? with | some d => d == 0 | none => false)
def isDg (k : Int) (l : List Int) : Bool := (l.all fun d => decide (0 ≤ d) && decide (d ≤ k)) && ((List.range (l.length - 1)).all (pairOk k l))
def isI : D → Bool
  | .int _ => true
  | _ => false
def sysD (A : Ad) (k : Int) : D := .ins A.c_System [("step", .int k)]
def K3 (k : Int) : Prop := 1 ≤ k ∧ k ≤ 3
/-! ### what each def does -/
def isSys (A : Ad) (d : D) (p : Int → Prop) : Prop := match d with
  | .ins C fs => C = A.c_System ∧ ∃ k, fs = [(("step" : Str), D.int k)] ∧ p k
  | _ => False
def isInts (d : D) (p : List Int → Prop) : Prop := match d with
  | .tup t => ∃ l : List Int, t = l.map .int ∧ p l
  | _ => False
def S_is_integer (A : Ad) : FS := fun ds _ q => match ds with
  | [d] => (isT (cd A) d "int").isSome = true ∧ q (.bl (isI d))
  | _ => False
def S_is_number (A : Ad) : FS := fun ds _ q => match ds with
  | [.int i, .int m] => q (.bl (decide (0 ≤ i) && decide (i ≤ m)))
  | _ => False
def S_System_init (A : Ad) : IS := fun ds _ q => match ds with
  | [.int k] => K3 k ∧ q [("step", .int k)]
  | _ => False
def S_units_up_to (A : Ad) : FS := fun ds _ q => match ds with
  | [.int k, .int m] => K3 k ∧ ∃ j : Nat, Lim k m j ∧ j ≤ 200 ∧ q (.lst ((unL k j).map .int))
  | _ => False
def S_digits_of (A : Ad) : FS := fun ds _ q => match ds with
  | [.int k, .int m] => K3 k ∧ m ≤ 10 ^ 40 ∧ ∃ j : Nat, Lim k m j ∧ j ≤ 200 ∧ q (.tup ((dg k m j).map .int))
  | _ => False
def S_System_digits (A : Ad) : FS := fun ds _ q => match ds with
  | [x, .int m] => isSys A x fun k => K3 k ∧ 0 ≤ m ∧ m ≤ 10 ^ 40 ∧ ∃ j : Nat, Lim k m j ∧ j ≤ 200 ∧ q (.tup ((dg k m j).map .int))
  | _ => False
def S_System_units (A : Ad) : FS := fun ds _ q => match ds with
  | [x, .int n] => isSys A x fun k => K3 k ∧ 0 ≤ n ∧ n ≤ 200 ∧ q (.tup ((unL k n.toNat).map .int))
  | _ => False
def S_number_of (A : Ad) : FS := fun ds _ q => match ds with
  | [.int k, d] => isInts d fun l => K3 k ∧ (∀ d ∈ l, 0 ≤ d ∧ d ≤ k) ∧ q (.int (nv k 0 1 1 l.reverse))
  | _ => False
def S_System_is_digits (A : Ad) : FS := fun ds _ q => match ds with
  | [x, d] => isSys A x fun k => isInts d fun l => K3 k ∧ l.length ≤ 1000 ∧ q (.bl (isDg k l))
  | _ => False
def S_System_number (A : Ad) : FS := fun ds _ q => match ds with
  | [x, d] => isSys A x fun k => isInts d fun l => K3 k ∧ l.length ≤ 200 ∧ isDg k l = true ∧ q (.int (nv k 0 1 1 l.reverse))
  | _ => False
def S_System_eq (A : Ad) : FS := fun ds _ q => match ds with
  | [x, y] => isSys A x fun k => match y with
    | .ins C fs => C = A.c_System ∧ ∃ j, fs = [(("step" : Str), D.int j)] ∧ q (.bl (k == j))
    | d => isO (cd A) d A.c_System = some false ∧ q (.bl false)
  | _ => False
def S_law_draw (A : Ad) : FS := sDraw
def S_law_bag (A : Ad) : FS := fun ds _ q => match ds with
  | [.scr ns, .int k] => 0 ≤ k ∧ ∀ a, q (.bag a)
  | _ => False
def S_law_units (A : Ad) : FS := fun ds _ q => match ds with
  | [.int k, .int n] => K3 k ∧ 0 ≤ n ∧ n ≤ 1000 ∧ q (.lst ((unL k n.toNat).map .int))
  | _ => False
def S_law_digits (A : Ad) : FS := fun ds _ q => match ds with
  | [.int k, .int m] => K3 k ∧ 0 ≤ m ∧ m ≤ 10 ^ 40 ∧ ∃ j : Nat, Lim k m j ∧ j ≤ 197 ∧ q (.tup ((dg k m j).map .int))
  | _ => False
def S_law_great (A : Ad) : FS := fun ds _ q => match ds with
  | [.bag _, .int k] => K3 k ∧ ∀ m : Int, 0 ≤ m → m ≤ 10 ^ 40 → q (.int m)
  | _ => False
def S_law_right (A : Ad) : FS := fun ds _ q => match ds with
  | [.bag _] => q (.bl true)
  | _ => False
def S_law (A : Ad) : FS := sLawD
end Lw
namespace Lw
open PySem L2 DL
def top (i : Nat) : Stmt := PySem.Challenge.pw_goldenrows_k01_digits_and_units.main.body.getD i (.Pass ⟨0, 0, 0, 0⟩)
abbrev s_is_integer : Stmt := top 6
theorem sc_is_integer : FnScope ["value"] ["value"] (defScope s_is_integer) := ⟨rfl, rfl, rfl, by decide +kernel, rfl, by decide +kernel, by decide +kernel⟩
abbrev s_is_number : Stmt := top 7
theorem sc_is_number : FnScope ["value", "most"] ["value", "most"] (defScope s_is_number) := ⟨rfl, rfl, rfl, by decide +kernel, rfl, by decide +kernel, by decide +kernel⟩
abbrev s_System_init : Stmt := inClass (top 15) 0
theorem sc_System_init : FnScope ["self", "step"] ["self", "step"] (defScope s_System_init) := ⟨rfl, rfl, rfl, by decide +kernel, rfl, by decide +kernel, by decide +kernel⟩
abbrev s_units_up_to : Stmt := top 12
theorem sc_units_up_to : FnScope ["step", "number", "found", "before", "unit"] ["step", "number"] (defScope s_units_up_to) := ⟨rfl, rfl, rfl, by decide +kernel, rfl, by decide +kernel, by decide +kernel⟩
abbrev s_digits_of : Stmt := top 13
theorem sc_digits_of : FnScope ["step", "number", "found", "rest", "unit"] ["step", "number"] (defScope s_digits_of) := ⟨rfl, rfl, rfl, by decide +kernel, rfl, by decide +kernel, by decide +kernel⟩
abbrev s_System_digits : Stmt := inClass (top 15) 2
theorem sc_System_digits : FnScope ["self", "number"] ["self", "number"] (defScope s_System_digits) := ⟨rfl, rfl, rfl, by decide +kernel, rfl, by decide +kernel, by decide +kernel⟩
abbrev s_System_units : Stmt := inClass (top 15) 1
theorem sc_System_units : FnScope ["self", "count", "found", "before", "unit", "turn"] ["self", "count"] (defScope s_System_units) := ⟨rfl, rfl, rfl, by decide +kernel, rfl, by decide +kernel, by decide +kernel⟩
abbrev s_System_eq : Stmt := inClass (top 15) 5
theorem sc_System_eq : FnScope ["self", "other"] ["self", "other"] (defScope s_System_eq) := ⟨rfl, rfl, rfl, by decide +kernel, rfl, by decide +kernel, by decide +kernel⟩
abbrev s_law_draw : Stmt := top 18
theorem sc_law_draw : FnScope ["_law_bag_here", "_law_wide", "_law_figure", "_law_held"] ["_law_bag_here", "_law_wide"] (defScope s_law_draw) := ⟨rfl, rfl, rfl, by decide +kernel, rfl, by decide +kernel, by decide +kernel⟩
abbrev s_law_units : Stmt := top 20
theorem sc_law_units : FnScope ["_law_level", "_law_many", "_law_found", "_law_turn"] ["_law_level", "_law_many"] (defScope s_law_units) := ⟨rfl, rfl, rfl, by decide +kernel, rfl, by decide +kernel, by decide +kernel⟩
abbrev s_law_great : Stmt := top 22
theorem sc_law_great : FnScope ["_law_bag_here", "_law_level", "_law_way", "_law_found", "_law_turn"] ["_law_bag_here", "_law_level"] (defScope s_law_great) := ⟨rfl, rfl, rfl, by decide +kernel, rfl, by decide +kernel, by decide +kernel⟩
abbrev s_law_digits : Stmt := top 21
theorem sc_law_digits : FnScope ["_law_level", "_law_amount", "_law_found", "_law_left", "_law_unit", "_law_many", "_law_k"] ["_law_level", "_law_amount"] (defScope s_law_digits) := ⟨rfl, rfl, rfl, by decide +kernel, rfl, by decide +kernel, by decide +kernel⟩
abbrev s_number_of : Stmt := top 14
theorem sc_number_of : FnScope ["step", "digits", "found", "before", "unit", "digit"] ["step", "digits"] (defScope s_number_of) := ⟨rfl, rfl, rfl, by decide +kernel, rfl, by decide +kernel, by decide +kernel⟩
abbrev s_System_is_digits : Stmt := inClass (top 15) 3
theorem sc_System_is_digits : FnScope ["self", "value", "digit", "at"] ["self", "value"] (defScope s_System_is_digits) := ⟨rfl, rfl, rfl, by decide +kernel, rfl, by decide +kernel, by decide +kernel⟩
abbrev s_System_number : Stmt := inClass (top 15) 4
theorem sc_System_number : FnScope ["self", "digits"] ["self", "digits"] (defScope s_System_number) := ⟨rfl, rfl, rfl, by decide +kernel, rfl, by decide +kernel, by decide +kernel⟩
abbrev s_law_right : Stmt := top 23
theorem sc_law_right : FnScope ["_law_bag_here", "_law_level", "_law_mine", "_law_many", "_law_due", "_law_turn", "_law_here", "_law_mates", "_law_that", "_law_this", "_law_j", "_law_k"] ["_law_bag_here"] (defScope s_law_right) := ⟨rfl, rfl, rfl, by decide +kernel, rfl, by decide +kernel, by decide +kernel⟩
abbrev s_law_bag : Stmt := top 17
theorem sc_law_bag : FnScope ["_law_cells", "_law_k", "_law_cell", "_law_seed", "_law_this", "_law_figures"] ["_law_cells", "_law_k"] (defScope s_law_bag) := ⟨rfl, rfl, rfl, by decide +kernel, rfl, by decide +kernel, by decide +kernel⟩
abbrev s_law : Stmt := top 24
theorem sc_law : FnScope ["_law_cells", "_law_golden", "_law_silver", "_law_bronze", "_law_k"] ["_law_cells"] (defScope s_law) := ⟨rfl, rfl, rfl, by decide +kernel, rfl, by decide +kernel, by decide +kernel⟩
def w_is_integer (A : Ad) : WS :=
    (sRet (wAnd (wCB (isA (cd A)) (wCons (wVar 0) (wCons (wC (.ty "int")) wNil))) (wNot (wCB (isA (cd A)) (wCons (wVar 0) (wCons (wC (.ty "bool")) wNil))))))
def w_is_number (A : Ad) : WS :=
    (sRet (wAnd (wCall0 1 (S_is_integer A) [] (wCons (wVar 0) wNil)) (wAnd (w2 dGe (wVar 0) (wC (.int 0))) (wOr (w2 dIsN (wVar 1) (wC .non)) (w2 dLe (wVar 0) (wVar 1))))))
def w_System_init (A : Ad) : WS :=
    (sSeq (sIf (tyOr (tyNot (wB (wCall0 2 (S_is_number A) [] (wCons (wVar 1) (wCons (wC (.int 3)) wNil))))) (wB (w2 dEq (wVar 1) (wC (.int 0))))) sNever sNext)
    (sFldI A.c_System 0 "step" (wVar 1)))
def lb_units_up_to_1 (A : Ad) : WS :=
    (sSeq (sApp 2 (wVar 4))
    (sPar 3 4 (wVar 4) (w2 dAdd (w2 dMulT (wVar 0) (wVar 4)) (wVar 3))))
def w_units_up_to (A : Ad) : WS :=
    (sSeq (sParO3 2 3 4 (wLstO wNil) (wC (.int 1)) (wC (.int 1)))
    (sSeq (sWhile (wB (w2 dLe (wVar 4) (wVar 1))) (lb_units_up_to_1 A))
    (sRetO 2)))
def lb_digits_of_1 (A : Ad) : WS :=
    (sSeq (sApp 2 (w2 dDiv (wVar 3) (wVar 4)))
    (sAsg 3 (w2 dMod (wVar 3) (wVar 4))))
def w_digits_of (A : Ad) : WS :=
    (sSeq (sParO 2 3 (wLstO wNil) (wVar 1))
    (sSeq (sFor (iLst (wRev (wCall0 2 (S_units_up_to A) [] (wCons (wVar 0) (wCons (wVar 1) wNil))))) (gVar 4) (lb_digits_of_1 A))
    (sRet (wCBL lTup (wOwn 2)))))
def w_System_digits (A : Ad) : WS :=
    (sSeq (sIf (tyNot (wB (wCall0 2 (S_is_number A) [] (wCons (wVar 1) (wCons (wC (.int 10000000000000000000000000000000000000000)) wNil))))) sNever sNext)
    (sRet (wCall0 2 (S_digits_of A) [] (wCons (wFldC A.c_System "step" (wVar 0)) (wCons (wVar 1) wNil)))))
def lb_System_units_1 (A : Ad) : WS :=
    (sSeq (sApp 2 (wVar 4))
    (sPar 3 4 (wVar 4) (w2 dAdd (w2 dMulT (wFldC A.c_System "step" (wVar 0)) (wVar 4)) (wVar 3))))
def w_System_units (A : Ad) : WS :=
    (sSeq (sIf (tyNot (wB (wCall0 2 (S_is_number A) [] (wCons (wVar 1) (wCons (wC (.int 200)) wNil))))) sNever sNext)
    (sSeq (sParO3 2 3 4 (wLstO wNil) (wC (.int 1)) (wC (.int 1)))
    (sSeq (sFor (iRg1 (wCons (wVar 1) wNil)) (gVar 5) (lb_System_units_1 A))
    (sRet (wCBL lTup (wOwn 2))))))
def w_System_eq (A : Ad) : WS :=
    (sRet (wAnd (wCB (isA (cd A)) (wCons (wVar 1) (wCons (wC (.obj A.c_System)) wNil))) (w2 dEq (wFldC A.c_System "step" (wVar 0)) (wFldC A.c_System "step" (wVar 1)))))
def lb_law_units_1 (A : Ad) : WS :=
    (sApp 2 (w2 dAdd (w2 dMulT (wVar 0) (wIxL (wOwn 2) (w1 dNeg (wC (.int 1))))) (wIxL (wOwn 2) (w1 dNeg (wC (.int 2))))))
def w_law_units (A : Ad) : WS :=
    (sSeq (sAsgO 2 (wLstO (wCons (wC (.int 1)) (wCons (w2 dAdd (wVar 0) (wC (.int 1))) wNil))))
    (sSeq (sFor (iRg1 (wCons (wVar 1) wNil)) (gVar 3) (lb_law_units_1 A))
    (sRet (wFz (wSlO (wOwn 2) wNoP (wPart (wVar 1)))))))
def lb_law_great_1 (A : Ad) : WS :=
    (sAsg 3 (w2 dAdd (w2 dMulT (wVar 3) (wC (.int 10))) (wCall0 2 (S_law_draw A) [] (wCons (wVar 0) (wCons (wC (.int 10)) wNil)))))
def w_law_great (A : Ad) : WS :=
    (sSeq (sPar 2 3 (wCall0 2 (S_law_draw A) [] (wCons (wVar 0) (wCons (wC (.int 5)) wNil))) (wC (.int 0)))
    (sSeq (sIf (wB (w2 dLt (wVar 2) (wC (.int 2)))) (sRet (wCall0 2 (S_law_draw A) [] (wCons (wVar 0) (wCons (wC (.int 90)) wNil)))) sNext)
    (sSeq (sIf (wB (w2 dEq (wVar 2) (wC (.int 2)))) (sRet (w2 dSub (w2 dAdd (w2 dIx (wCall0 2 (S_law_units A) [] (wCons (wVar 1) (wCons (w2 dAdd (wC (.int 4)) (wCall0 2 (S_law_draw A) [] (wCons (wVar 0) (wCons (wC (.int 60)) wNil)))) wNil))) (w1 dNeg (wC (.int 1)))) (wCall0 2 (S_law_draw A) [] (wCons (wVar 0) (wCons (wC (.int 5)) wNil)))) (wC (.int 2)))) sNext)
    (sSeq (sFor (iRg1 (wCons (w2 dAdd (wC (.int 1)) (wCall0 2 (S_law_draw A) [] (wCons (wVar 0) (wCons (wC (.int 40)) wNil)))) wNil)) (gVar 4) (lb_law_great_1 A))
    (sRet (wVar 3))))))
def lb_law_digits_1 (A : Ad) : WS :=
    (sSeq (sAsg 5 (wCBL lLen (wLc (iRg2 (wCons (wC (.int 1)) (wCons (w2 dAdd (wVar 0) (wC (.int 1))) wNil))) (gVar 6) (wB (w2 dLe (w2 dMulT (wVar 6) (wVar 4)) (wVar 3))) (wVar 6) [6])))
    (sSeq (sApp 2 (wVar 5))
    (sAsg 3 (w2 dSub (wVar 3) (w2 dMulT (wVar 5) (wVar 4))))))
def w_law_digits (A : Ad) : WS :=
    (sSeq (sParO 2 3 (wLstO wNil) (wVar 1))
    (sSeq (sFor (iLst (wRev (wFz (wLc (iLst (wCall0 2 (S_law_units A) [] (wCons (wVar 0) (wCons (wC (.int 198)) wNil)))) (gVar 4) (wB (w2 dLe (wVar 4) (wVar 1))) (wVar 4) [4])))) (gVar 4) (lb_law_digits_1 A))
    (sRet (wCBL lTup (wOwn 2)))))
def lb_number_of_1 (A : Ad) : WS :=
    (sSeq (sAug 2 (fun i j => i + j) (w2 dMulT (wVar 5) (wVar 4)))
    (sPar 3 4 (wVar 4) (w2 dAdd (w2 dMulT (wVar 0) (wVar 4)) (wVar 3))))
def w_number_of (A : Ad) : WS :=
    (sSeq (sAsgG (gTupD [2, 3, 4]) (wTup (wCons (wC (.int 0)) (wCons (wC (.int 1)) (wCons (wC (.int 1)) wNil)))))
    (sSeq (sFor (iTupW (wRevT (wVar 1))) (gVar 5) (lb_number_of_1 A))
    (sRet (wVar 2))))
def w_System_is_digits (A : Ad) : WS :=
    (sSeq (sIf (tyOr (tyNot (wB (wCB (isA (cd A)) (wCons (wVar 1) (wCons (wC (.ty "tuple")) wNil))))) (tyNot (wB (wCBL lAll (wLc (iTupW (wVar 1)) (gVar 2) wYes (wCall0 2 (S_is_number A) [] (wCons (wVar 2) (wCons (wFldC A.c_System "step" (wVar 0)) wNil))) [2]))))) (sRet (wC (.bl false))) sNext)
    (sRet (wCBL lAll (wLc (iRg2 (wCons (wC (.int 1)) (wCons (wCB dLen (wCons (wVar 1) wNil)) wNil))) (gVar 3) wYes (wOr (w2 dLt (w2 dIx (wVar 1) (w2 dSub (wVar 3) (wC (.int 1)))) (wFldC A.c_System "step" (wVar 0))) (w2 dEq (w2 dIx (wVar 1) (wVar 3)) (wC (.int 0)))) [3]))))
def w_System_number (A : Ad) : WS :=
    (sSeq (sIf (tyOr (tyNot (wB (wMeth0 A.c_System "is_digits" 2 (S_System_is_digits A) [] (wVar 0) (wCons (wVar 1) wNil)))) (wB (w2 dGt (wCB dLen (wCons (wVar 1) wNil)) (wC (.int 200))))) sNever sNext)
    (sRet (wCall0 2 (S_number_of A) [] (wCons (wFldC A.c_System "step" (wVar 0)) (wCons (wVar 1) wNil)))))
def lb_law_right_1 (A : Ad) : WS :=
    (sSeq (sAsg 6 (wCall0 2 (S_law_great A) [] (wCons (wVar 0) (wCons (wVar 1) wNil))))
    (sSeq (sAsg 4 (wCall0 2 (S_law_digits A) [] (wCons (wVar 1) (wCons (wVar 6) wNil))))
    (sSeq (sIf (wB (w2 dNe (wFz (wLstO (wCons (wMeth0 A.c_System "digits" 2 (S_System_digits A) [] (wVar 2) (wCons (wVar 6) wNil)) (wCons (wMethN0 A.c_System "digits" 1 2 (S_System_digits A) (pmA [0]) (wVar 2) (wCons (wVar 6) wNil)) (wCons (wMeth0 A.c_System "digits" 2 (S_System_digits A) [] (wMakeK0 A.c_System 1 1 (S_System_init A) (perm [0]) (wCons (wVar 1) wNil)) (wCons (wVar 6) wNil)) wNil))))) (w2 dMulT (wFz (wLstO (wCons (wVar 4) wNil))) (wC (.int 3))))) (sRet (wC (.bl false))) sNext)
    (sSeq (sIf (wB (w2 dNe (wFz (wLstO (wCons (wMeth0 A.c_System "number" 2 (S_System_number A) [] (wVar 2) (wCons (wVar 4) wNil)) (wCons (wMethN0 A.c_System "number" 1 2 (S_System_number A) (pmA [0]) (wVar 2) (wCons (w2 dAdd (w2 dMulT (wTup (wCons (wC (.int 0)) wNil)) (wCall0 2 (S_law_draw A) [] (wCons (wVar 0) (wCons (wC (.int 4)) wNil)))) (wVar 4)) wNil)) wNil)))) (wFz (wLstO (wCons (wVar 6) (wCons (wVar 6) wNil)))))) (sRet (wC (.bl false))) sNext)
    (sIf (tyOr (tyNot (wB (wMeth0 A.c_System "is_digits" 2 (S_System_is_digits A) [] (wVar 2) (wCons (wVar 4) wNil)))) (tyNot (wB (wMethN0 A.c_System "is_digits" 1 2 (S_System_is_digits A) (pmA [0]) (wVar 2) (wCons (w2 dAdd (wTup (wCons (wC (.int 0)) wNil)) (wVar 4)) wNil))))) (sRet (wC (.bl false))) sNext)))))
def lb_law_right_2 (A : Ad) : WS :=
    (sSeq (sPar 2 3 (wMake0 A.c_System 1 (S_System_init A) [] (wCons (wVar 1) wNil)) (wCall0 2 (S_law_draw A) [] (wCons (wVar 0) (wCons (wC (.int 201)) wNil))))
    (sSeq (sAsg 4 (wCBL lTup (wLk (wCall0 2 (S_law_units A) [] (wCons (wVar 1) (wCons (wVar 3) wNil))))))
    (sSeq (sIf (tyOr (wB (w2 dNe (wFz (wLstO (wCons (wMeth0 A.c_System "units" 2 (S_System_units A) [] (wVar 2) (wCons (wVar 3) wNil)) (wCons (wMethN0 A.c_System "units" 1 2 (S_System_units A) (pmA [0]) (wVar 2) (wCons (wVar 3) wNil)) wNil)))) (wFz (wLstO (wCons (wVar 4) (wCons (wVar 4) wNil)))))) (wB (w2 dNe (wFldC A.c_System "step" (wVar 2)) (wVar 1)))) (sRet (wC (.bl false))) sNext)
    (sFor (iRg1 (wCons (wC (.int 4)) wNil)) (gVar 5) (lb_law_right_1 A)))))
def w_law_right (A : Ad) : WS :=
    (sSeq (sFor (iRg2 (wCons (wC (.int 1)) (wCons (wC (.int 4)) wNil))) (gVar 1) (lb_law_right_2 A))
    (sSeq (sAsg 7 (wFz (wLstO (wCons (wMake0 A.c_System 1 (S_System_init A) [] (wCons (wC (.int 1)) wNil)) (wCons (wMake0 A.c_System 1 (S_System_init A) [] (wCons (wC (.int 2)) wNil)) (wCons (wMake0 A.c_System 1 (S_System_init A) [] (wCons (wC (.int 3)) wNil)) wNil))))))
    (sSeq (sIf (wB (w2 dNe (wFz (wLc (iLst (wVar 7)) (gVar 9) wYes (wFz (wLc (iLst (wVar 7)) (gVar 8) wYes (w2 (eqO (cd A) A.c_System (S_System_eq A)) (wVar 9) (wVar 8)) [8])) [9])) (wFz (wLc (iRg1 (wCons (wC (.int 3)) wNil)) (gVar 11) wYes (wFz (wLc (iRg1 (wCons (wC (.int 3)) wNil)) (gVar 10) wYes (w2 dEq (wVar 11) (wVar 10)) [10])) [11])))) (sRet (wC (.bl false))) sNext)
    (sRet (wAnd (w2 (neO (cd A) A.c_System (S_System_eq A)) (w2 dIx (wVar 7) (wC (.int 0))) (w2 dIx (wVar 7) (wC (.int 1)))) (wAnd (wNot (w2 (neO (cd A) A.c_System (S_System_eq A)) (w2 dIx (wVar 7) (wC (.int 2))) (wMake0 A.c_System 1 (S_System_init A) [] (wCons (wC (.int 3)) wNil)))) (w2 (neO (cd A) A.c_System (S_System_eq A)) (w2 dIx (wVar 7) (wC (.int 0))) (wC (.int 1)))))))))
def lb_law_bag_1 (A : Ad) : WS :=
    (sAsg 3 (w2 dMod (wCB dInt (wCons (w2 dAdd (w2 dAdd (w2 dMulT (wVar 3) (wC (.int 29501))) (w2 dMod (wCB dInt (wCons (wVar 4) wNil)) (wC (.int 1000033)))) (w2 dMulT (wC (.int 11)) (wVar 1))) wNil)) (wC (.int 2147483587))))
def w_law_bag (A : Ad) : WS :=
    (sSeq (sPar 2 3 (wIf (wB (w2 dLt (wVar 1) (wCB dLen (wCons (wVar 0) wNil)))) (wCB dInt (wCons (w2 dIx (wVar 0) (wVar 1)) wNil)) (wC (.int 0))) (w2 dMulT (wC (.int 70001)) (w2 dAdd (wVar 1) (wC (.int 5)))))
    (sSeq (sFor (iLst (wSl (wVar 0) wNoP (wPart (wC (.int 7))))) (gVar 4) (lb_law_bag_1 A))
    (sSeq (sAsg 5 (wIf (tyOr (wB (w2 dLt (wVar 2) (wC (.int 0)))) (wB (w2 dGe (wVar 2) (w2 dPow (wC (.int 10)) (wC (.int 15)))))) (wCB dAbs (wCons (wVar 2) wNil)) (wC (.int 0))))
    (sRet (wBag (wLstO (wCons (wVar 5) (wCons (w2 dMod (wCB dInt (wCons (w2 dAdd (wVar 3) (w2 dMulT (wC (.int 40487)) (w2 dMod (wCB dInt (wCons (wVar 2) wNil)) (wC (.int 999961))))) wNil)) (wC (.int 2147483587))) (wCons (wC (.int 0)) wNil)))))))))
def w_law (A : Ad) : WS :=
    (sSeq (sPar3 1 2 3 (wMake0 A.c_System 1 (S_System_init A) [] (wCons (wC (.int 1)) wNil)) (wMake0 A.c_System 1 (S_System_init A) [] (wCons (wC (.int 2)) wNil)) (wMake0 A.c_System 1 (S_System_init A) [] (wCons (wC (.int 3)) wNil)))
    (sSeq (sIf (wB (w2 dNe (wFz (wLstO (wCons (wMeth0 A.c_System "digits" 2 (S_System_digits A) [] (wVar 1) (wCons (wC (.int 0)) wNil)) (wCons (wMeth0 A.c_System "digits" 2 (S_System_digits A) [] (wVar 1) (wCons (wC (.int 4)) wNil)) (wCons (wMeth0 A.c_System "digits" 2 (S_System_digits A) [] (wVar 2) (wCons (wC (.int 6)) wNil)) (wCons (wMeth0 A.c_System "digits" 2 (S_System_digits A) [] (wVar 3) (wCons (wC (.int 19)) wNil)) wNil)))))) (wFz (wLstO (wCons (wTup wNil) (wCons (wTup (wCons (wC (.int 1)) (wCons (wC (.int 0)) (wCons (wC (.int 1)) wNil)))) (wCons (wTup (wCons (wC (.int 2)) (wCons (wC (.int 0)) wNil))) (wCons (wTup (wCons (wC (.int 1)) (wCons (wC (.int 1)) (wCons (wC (.int 2)) wNil)))) wNil)))))))) (sRet (wC (.bl false))) sNext)
    (sSeq (sIf (wB (w2 dNe (wFz (wLstO (wCons (wMeth0 A.c_System "units" 2 (S_System_units A) [] (wVar 1) (wCons (wC (.int 6)) wNil)) (wCons (wMeth0 A.c_System "units" 2 (S_System_units A) [] (wVar 2) (wCons (wC (.int 4)) wNil)) (wCons (wMeth0 A.c_System "units" 2 (S_System_units A) [] (wVar 3) (wCons (wC (.int 4)) wNil)) wNil))))) (wFz (wLstO (wCons (wTup (wCons (wC (.int 1)) (wCons (wC (.int 2)) (wCons (wC (.int 3)) (wCons (wC (.int 5)) (wCons (wC (.int 8)) (wCons (wC (.int 13)) wNil))))))) (wCons (wTup (wCons (wC (.int 1)) (wCons (wC (.int 3)) (wCons (wC (.int 7)) (wCons (wC (.int 17)) wNil))))) (wCons (wTup (wCons (wC (.int 1)) (wCons (wC (.int 4)) (wCons (wC (.int 13)) (wCons (wC (.int 43)) wNil))))) wNil))))))) (sRet (wC (.bl false))) sNext)
    (sRet (wCBL lAll (wLc (iRg1 (wCons (wCB dMax2 (wCons (wC (.int 2)) (wCons (wCB dMin2 (wCons (wCB dLen (wCons (wVar 0) wNil)) (wCons (wC (.int 6)) wNil))) wNil))) wNil)) (gVar 4) wYes (wCall0 1 (S_law_right A) [] (wCons (wCall0 2 (S_law_bag A) [] (wCons (wVar 0) (wCons (wVar 4) wNil))) wNil)) [4]))))))
end Lw
namespace Lw
open PySem L2 DL
/-! ### the units -/
theorem un_0 (k : Int) : un k 0 = 1 := rfl
theorem un_1 (k : Int) : un k 1 = k + 1 := by
  show k * 1 + 1 = k + 1
  omega
theorem un_2 (k : Int) (n : Nat) : un k (n + 2) = k * un k (n + 1) + un k n := rfl
theorem pr_1 (k : Int) (n : Nat) : (pr k (n + 1)).1 = un k n := rfl
theorem pr_eq (k : Int) (n : Nat) : pr k n = ((pr k n).1, un k n) := rfl
theorem un_s (k : Int) (n : Nat) : un k (n + 1) = k * un k n + (pr k n).1 := rfl
theorem pr_pos {k : Int} (h : K3 k) : ∀ n, 1 ≤ (pr k n).1 ∧ (pr k n).1 ≤ un k n
  | 0 => ⟨Int.le_refl _, Int.le_refl _⟩
  | n + 1 => by
    obtain ⟨h1, h2⟩ := pr_pos h n
    have h3 : un k n ≤ k * un k n := by
      have := Int.mul_le_mul_of_nonneg_right h.1 (show 0 ≤ un k n by omega)
      omega
    rw [pr_1, un_s]
    omega
theorem un_pos {k : Int} (h : K3 k) (n : Nat) : 1 ≤ un k n := Int.le_trans (pr_pos h n).1 (pr_pos h n).2
theorem un_lt {k : Int} (h : K3 k) (n : Nat) : un k n < un k (n + 1) := by
  obtain ⟨h1, h2⟩ := pr_pos h n
  have h3 := Int.mul_le_mul_of_nonneg_right h.1 (show 0 ≤ un k n by omega)
  rw [un_s]
  omega
theorem un_le {k : Int} (h : K3 k) (n : Nat) : un k (n + 1) ≤ (k + 1) * un k n := by
  obtain ⟨h1, h2⟩ := pr_pos h n
  rw [un_s, Int.add_mul]
  omega
theorem un_mono {k : Int} (h : K3 k) {i j : Nat} (e : i ≤ j) : un k i ≤ un k j := by
  induction j with
  | zero =>
    have : i = 0 := by omega
    subst this
    exact Int.le_refl _
  | succ j ih =>
    by_cases z : i = j + 1
    · subst z
      exact Int.le_refl _
    · have := ih (by omega)
      have := un_lt h j
      omega
theorem un_4 {k : Int} (h : K3 k) (n : Nat) : un k n ≤ 4 ^ n := by
  induction n with
  | zero => exact Int.le_refl _
  | succ n ih =>
    have h1 := un_le h n
    have h2 : (k + 1) * un k n ≤ 4 * un k n := Int.mul_le_mul_of_nonneg_right (by have := h.2; omega) (by have := un_pos h n; omega)
    rw [Int.pow_succ]
    omega
theorem k3_cases {k : Int} (h : K3 k) : k = 1 ∨ k = 2 ∨ k = 3 := by
  have h1 := h.1
  have h2 := h.2
  omega
theorem un_big {k : Int} (h : K3 k) : (10 : Int) ^ 40 < un k 197 := by
  rcases k3_cases h with rfl | rfl | rfl <;> decide +kernel
theorem lim_ex {k m : Int} (N : Nat) (h : m < un k N) : ∃ j, j ≤ N ∧ Lim k m j := by
  induction N using Nat.strongRecOn with
  | _ N ih =>
    by_cases y : ∀ i, i < N → un k i ≤ m
    · exact ⟨N, Nat.le_refl _, y, h⟩
    · obtain ⟨i, hi⟩ := Classical.not_forall.mp y
      obtain ⟨h1, h2⟩ := Classical.not_imp.mp hi
      obtain ⟨j, h4, h5⟩ := ih i h1 (by omega)
      exact ⟨j, by omega, h5⟩
theorem unL_len (k : Int) (n : Nat) : (unL k n).length = n := by
  unfold unL
  rw [List.length_map, List.length_range]
theorem unL_s (k : Int) (n : Nat) : unL k (n + 1) = unL k n ++ [un k n] := by
  unfold unL
  rw [List.range_succ, List.map_append]
  rfl
/-! ### the defs -/
theorem isT_int (A : Ad) (i : Int) (T : String) (h : T ∈ bts) : isT (cd A) (.int i) T = some (T == "int") := if_pos h
theorem isT_tup (A : Ad) (i : List D) (T : String) (h : T ∈ bts) : isT (cd A) (.tup i) T = some (T == "tuple") := if_pos h
theorem hw_is_integer (A : Ad) : ∀ ds er q, ds.length = 1 → S_is_integer A ds er q → w_is_integer A { nx := fun _ => q .non, rt := q, er := er } (envOf 1 ds) := by
  intro ds er q hlen h
  unfold S_is_integer at h
  split at h
  · rename_i d
    obtain ⟨h, hq⟩ := h
    simp [w_is_integer, wVar, wC, w2, w1, wNil, wCons, wTup, wLstO, wFz, wLk, wOwn, wAnd, wOr, wNot, wB, wYes, wIf, wFldC, wCB, wCBL, wCall0, wMeth0, wMethN0, wMakeK0, wMake0, sSeq, sNext, sNever, sRet, sRetN, sRetO, sIf, sAsg, sAsgO, sPar, sParO, sPar3, sParO3, sAsgG, gTupD, setAll, sAug, sApp, sFldI, tyAnd, tyOr, tyNot, iRg1, iRg2, iLst, iTupW, sFor, dAdd, dSub, dMul, dMulT, dDiv, dMod, dPow, dNeg, dLt, dLe, dGt, dGe, dIsN, isNon, dNotN, dEq, dNe, dIx, dLen, dInt, dAbs, dMax2, dMin2, lLen, lTup, isA, envOf, envI, putD, gVar, wRev, wRevT, wIxL, wSl, wSlO, wNoP, wPart, wBag, okD_int, okD_bl, okD_non, eqD_int, eqD_bl, wipeE]
    cases d <;> simp_all [isT, isI, bts] <;> (try (rw [if_pos h]; exact hq))
  · exact h.elim
theorem hw_is_number (A : Ad) : ∀ ds er q, ds.length = 2 → S_is_number A ds er q → w_is_number A { nx := fun _ => q .non, rt := q, er := er } (envOf 2 ds) := by
  intro ds er q hlen h
  unfold S_is_number at h
  split at h
  · rename_i i m
    simp [w_is_number, wVar, wC, w2, w1, wNil, wCons, wTup, wLstO, wFz, wLk, wOwn, wAnd, wOr, wNot, wB, wYes, wIf, wFldC, wCB, wCBL, wCall0, wMeth0, wMethN0, wMakeK0, wMake0, sSeq, sNext, sNever, sRet, sRetN, sRetO, sIf, sAsg, sAsgO, sPar, sParO, sPar3, sParO3, sAsgG, gTupD, setAll, sAug, sApp, sFldI, tyAnd, tyOr, tyNot, iRg1, iRg2, iLst, iTupW, sFor, dAdd, dSub, dMul, dMulT, dDiv, dMod, dPow, dNeg, dLt, dLe, dGt, dGe, dIsN, isNon, dNotN, dEq, dNe, dIx, dLen, dInt, dAbs, dMax2, dMin2, lLen, lTup, isA, envOf, envI, putD, gVar, wRev, wRevT, wIxL, wSl, wSlO, wNoP, wPart, wBag, okD_int, okD_bl, okD_non, eqD_int, eqD_bl, wipeE, S_is_integer, isT, bts, isI]
    by_cases h0 : 0 ≤ i
    · simp_all
    · have e := decide_eq_false h0
      rw [e] at h ⊢
      exact h
  · exact h.elim
theorem step_look (x : D) : List.lookup ("step" : Str) [(("step" : Str), x)] = some x := by simp [List.lookup]
theorem hw_System_init (A : Ad) : ∀ x ds er q, ds.length = 1 → S_System_init A ds er q → w_System_init A { nx := fun env => ∃ fs, env[0]? = some (.me x A.c_System fs) ∧ q fs, rt := fun _ => False, er := er } (envI 2 x A.c_System ds) := by
  intro x ds er q hlen h
  unfold S_System_init at h
  split at h
  · rename_i k
    obtain ⟨⟨h1, h2⟩, hq⟩ := h
    simp [w_System_init, wVar, wC, w2, w1, wNil, wCons, wTup, wLstO, wFz, wLk, wOwn, wAnd, wOr, wNot, wB, wYes, wIf, wFldC, wCB, wCBL, wCall0, wMeth0, wMethN0, wMakeK0, wMake0, sSeq, sNext, sNever, sRet, sRetN, sRetO, sIf, sAsg, sAsgO, sPar, sParO, sPar3, sParO3, sAsgG, gTupD, setAll, sAug, sApp, sFldI, tyAnd, tyOr, tyNot, iRg1, iRg2, iLst, iTupW, sFor, dAdd, dSub, dMul, dMulT, dDiv, dMod, dPow, dNeg, dLt, dLe, dGt, dGe, dIsN, isNon, dNotN, dEq, dNe, dIx, dLen, dInt, dAbs, dMax2, dMin2, lLen, lTup, isA, envOf, envI, putD, gVar, wRev, wRevT, wIxL, wSl, wSlO, wNoP, wPart, wBag, okD_int, okD_bl, okD_non, eqD_int, eqD_bl, wipeE, S_is_number]
    have h3 : ¬ k = 0 := by omega
    have h4 : 0 ≤ k := by omega
    simp_all
  · exact h.elim
theorem k3_mul {k x : Int} (h : K3 k) : CMul k x := .inl ⟨by have := h.1; omega, by have := h.2; omega⟩
theorem iter_units (A : Ad) {k m : Int} {n : DN} {c d : SV} (hk : K3 k) (j : Nat) (hj : j ≤ 200) (hl : Lim k m j) : ∀ t i : Nat, i + t = j → n.nx [.d (.int k), .d (.int m), .own ((unL k j).map .int), .d (.int (pr k j).1), .d (.int (un k j))] →
    sIter (wB (w2 dLe (wVar 4) (wVar 1))) (lb_units_up_to_1 A) n (t + 1) [.d (.int k), .d (.int m), .own ((unL k i).map .int), .d (.int (pr k i).1), .d (.int (un k i))]
  | 0, i, e, h => by
    have : i = j := by omega
    subst this
    have h2 := hl.2
    rw [sIter]
    simp [wVar, wC, w2, w1, wNil, wCons, wTup, wLstO, wFz, wLk, wOwn, wAnd, wOr, wNot, wB, wYes, wIf, wFldC, wCB, wCBL, wCall0, wMeth0, wMethN0, wMakeK0, wMake0, sSeq, sNext, sNever, sRet, sRetN, sRetO, sIf, sAsg, sAsgO, sPar, sParO, sPar3, sParO3, sAsgG, gTupD, setAll, sAug, sApp, sFldI, tyAnd, tyOr, tyNot, iRg1, iRg2, iLst, iTupW, sFor, dAdd, dSub, dMul, dMulT, dDiv, dMod, dPow, dNeg, dLt, dLe, dGt, dGe, dIsN, isNon, dNotN, dEq, dNe, dIx, dLen, dInt, dAbs, dMax2, dMin2, lLen, lTup, isA, envOf, envI, putD, gVar, wRev, wRevT, wIxL, wSl, wSlO, wNoP, wPart, wBag, okD_int, okD_bl, okD_non, eqD_int, eqD_bl, wipeE]
    exact ⟨fun z => absurd z (by omega), fun _ => h⟩
  | t + 1, i, e, h => by
    have h2 := hl.1 i (by omega)
    have ih := iter_units A (c := c) (d := d) hk j hj hl t (i + 1) (by omega) h
    rw [sIter]
    simp [lb_units_up_to_1, wVar, wC, w2, w1, wNil, wCons, wTup, wLstO, wFz, wLk, wOwn, wAnd, wOr, wNot, wB, wYes, wIf, wFldC, wCB, wCBL, wCall0, wMeth0, wMethN0, wMakeK0, wMake0, sSeq, sNext, sNever, sRet, sRetN, sRetO, sIf, sAsg, sAsgO, sPar, sParO, sPar3, sParO3, sAsgG, gTupD, setAll, sAug, sApp, sFldI, tyAnd, tyOr, tyNot, iRg1, iRg2, iLst, iTupW, sFor, dAdd, dSub, dMul, dMulT, dDiv, dMod, dPow, dNeg, dLt, dLe, dGt, dGe, dIsN, isNon, dNotN, dEq, dNe, dIx, dLen, dInt, dAbs, dMax2, dMin2, lLen, lTup, isA, envOf, envI, putD, gVar, wRev, wRevT, wIxL, wSl, wSlO, wNoP, wPart, wBag, okD_int, okD_bl, okD_non, eqD_int, eqD_bl, wipeE, unL_len]
    refine ⟨fun _ => ⟨by show i < sizeLine; have : (200 : Nat) < sizeLine := by decide
                         omega, .inl (k3_mul hk), ?_⟩, fun z => absurd z (by omega)⟩
    rw [unL_s, List.map_append, pr_1, un_s] at ih
    exact ih
theorem hw_units_up_to (A : Ad) : ∀ ds er q, ds.length = 2 → S_units_up_to A ds er q → w_units_up_to A { nx := fun _ => q .non, rt := q, er := er } (envOf 5 ds) := by
  intro ds er q hlen h
  unfold S_units_up_to at h
  split at h
  · rename_i k m
    obtain ⟨hk, j, hl, hj, hq⟩ := h
    simp [w_units_up_to, wVar, wC, w2, w1, wNil, wCons, wTup, wLstO, wFz, wLk, wOwn, wAnd, wOr, wNot, wB, wYes, wIf, wFldC, wCB, wCBL, wCall0, wMeth0, wMethN0, wMakeK0, wMake0, sSeq, sNext, sNever, sRet, sRetN, sRetO, sIf, sAsg, sAsgO, sPar, sParO, sPar3, sParO3, sAsgG, gTupD, setAll, sAug, sApp, sFldI, tyAnd, tyOr, tyNot, iRg1, iRg2, iLst, iTupW, sFor, dAdd, dSub, dMul, dMulT, dDiv, dMod, dPow, dNeg, dLt, dLe, dGt, dGe, dIsN, isNon, dNotN, dEq, dNe, dIx, dLen, dInt, dAbs, dMax2, dMin2, lLen, lTup, isA, envOf, envI, putD, gVar, wRev, wRevT, wIxL, wSl, wSlO, wNoP, wPart, wBag, okD_int, okD_bl, okD_non, eqD_int, eqD_bl, wipeE]
    refine ⟨j + 1, iter_units A (c := .un) (d := .un) hk j hj hl j 0 (by omega) ?_⟩
    simp [wVar, wC, w2, w1, wNil, wCons, wTup, wLstO, wFz, wLk, wOwn, wAnd, wOr, wNot, wB, wYes, wIf, wFldC, wCB, wCBL, wCall0, wMeth0, wMethN0, wMakeK0, wMake0, sSeq, sNext, sNever, sRet, sRetN, sRetO, sIf, sAsg, sAsgO, sPar, sParO, sPar3, sParO3, sAsgG, gTupD, setAll, sAug, sApp, sFldI, tyAnd, tyOr, tyNot, iRg1, iRg2, iLst, iTupW, sFor, dAdd, dSub, dMul, dMulT, dDiv, dMod, dPow, dNeg, dLt, dLe, dGt, dGe, dIsN, isNon, dNotN, dEq, dNe, dIx, dLen, dInt, dAbs, dMax2, dMin2, lLen, lTup, isA, envOf, envI, putD, gVar, wRev, wRevT, wIxL, wSl, wSlO, wNoP, wPart, wBag, okD_int, okD_bl, okD_non, eqD_int, eqD_bl, wipeE]
    exact hq
  · exact h.elim
theorem loop_digits (A : Ad) {k m : Int} {n : DN} : ∀ (us acc : List Int) (r : Int) (c : SV), (∀ u ∈ us, 0 < u ∧ u ≤ 10 ^ 40) → acc.length + us.length ≤ 1000 →
    (∀ r' c', n.nx [.d (.int k), .d (.int m), .own ((acc ++ gd us r).map .int), .d (.int r'), c']) → sLoop (lb_digits_of_1 A) (gVar 4) n (us.map .int) [.d (.int k), .d (.int m), .own (acc.map .int), .d (.int r), c]
  | [], acc, r, c, _, _, h => by
    have h := h r c
    rw [gd, List.append_nil] at h
    exact h
  | u :: us, acc, r, c, hu, hl, h => by
    obtain ⟨h1, h2⟩ := hu u (by simp)
    have hl2 : (u :: us).length = us.length + 1 := rfl
    have ih := loop_digits A (k := k) (m := m) (n := n) us (acc ++ [r / u]) (r % u) (.d (.int u)) (fun x hx => hu x (by simp [hx])) (by rw [List.length_append]; show acc.length + 1 + us.length ≤ 1000; omega) (fun r' c' => by
      rw [List.append_assoc]
      exact h r' c')
    rw [List.map_cons, sLoop]
    simp [lb_digits_of_1, wVar, wC, w2, w1, wNil, wCons, wTup, wLstO, wFz, wLk, wOwn, wAnd, wOr, wNot, wB, wYes, wIf, wFldC, wCB, wCBL, wCall0, wMeth0, wMethN0, wMakeK0, wMake0, sSeq, sNext, sNever, sRet, sRetN, sRetO, sIf, sAsg, sAsgO, sPar, sParO, sPar3, sParO3, sAsgG, gTupD, setAll, sAug, sApp, sFldI, tyAnd, tyOr, tyNot, iRg1, iRg2, iLst, iTupW, sFor, dAdd, dSub, dMul, dMulT, dDiv, dMod, dPow, dNeg, dLt, dLe, dGt, dGe, dIsN, isNon, dNotN, dEq, dNe, dIx, dLen, dInt, dAbs, dMax2, dMin2, lLen, lTup, isA, envOf, envI, putD, gVar, wRev, wRevT, wIxL, wSl, wSlO, wNoP, wPart, wBag, okD_int, okD_bl, okD_non, eqD_int, eqD_bl, wipeE]
    refine ⟨⟨h1, ?_⟩, by have : (1000 : Nat) < sizeLine := by decide
                         omega, h1, ?_⟩
    · have : u.natAbs < 2 ^ 200 := by omega
      have := (Nat.log2_lt (by omega)).mpr this
      omega
    · rw [List.map_append] at ih
      exact ih
theorem unL_le {k m : Int} {j : Nat} (hk : K3 k) (hl : Lim k m j) (hm : m ≤ 10 ^ 40) : ∀ u ∈ (unL k j).reverse, 0 < u ∧ u ≤ 10 ^ 40 := fun u hu => by
  rw [List.mem_reverse] at hu
  unfold unL at hu
  obtain ⟨i, hi, rfl⟩ := List.mem_map.mp hu
  have := hl.1 i (List.mem_range.mp hi)
  have := un_pos hk i
  omega
theorem hw_digits_of (A : Ad) : ∀ ds er q, ds.length = 2 → S_digits_of A ds er q → w_digits_of A { nx := fun _ => q .non, rt := q, er := er } (envOf 5 ds) := by
  intro ds er q hlen h
  unfold S_digits_of at h
  split at h
  · rename_i k m
    obtain ⟨hk, hm, j, hl, hj, hq⟩ := h
    simp [w_digits_of, wVar, wC, w2, w1, wNil, wCons, wTup, wLstO, wFz, wLk, wOwn, wAnd, wOr, wNot, wB, wYes, wIf, wFldC, wCB, wCBL, wCall0, wMeth0, wMethN0, wMakeK0, wMake0, sSeq, sNext, sNever, sRet, sRetN, sRetO, sIf, sAsg, sAsgO, sPar, sParO, sPar3, sParO3, sAsgG, gTupD, setAll, sAug, sApp, sFldI, tyAnd, tyOr, tyNot, iRg1, iRg2, iLst, iTupW, sFor, dAdd, dSub, dMul, dMulT, dDiv, dMod, dPow, dNeg, dLt, dLe, dGt, dGe, dIsN, isNon, dNotN, dEq, dNe, dIx, dLen, dInt, dAbs, dMax2, dMin2, lLen, lTup, isA, envOf, envI, putD, gVar, wRev, wRevT, wIxL, wSl, wSlO, wNoP, wPart, wBag, okD_int, okD_bl, okD_non, eqD_int, eqD_bl, wipeE, S_units_up_to]
    refine ⟨hk, j, hl, hj, ?_⟩
    rw [← List.map_reverse]
    refine loop_digits A (unL k j).reverse [] m .un (unL_le hk hl hm) (by rw [List.length_reverse, unL_len]; show 0 + j ≤ 1000; omega) (fun r' c' => ?_)
    simp
    exact hq
  · exact h.elim
theorem hw_System_digits (A : Ad) : ∀ ds er q, ds.length = 2 → S_System_digits A ds er q → w_System_digits A { nx := fun _ => q .non, rt := q, er := er } (envOf 2 ds) := by
  intro ds er q hlen h
  unfold S_System_digits at h
  split at h
  · rename_i x m
    cases x with
    | ins C fs =>
      obtain ⟨rfl, k, rfl, hk, h0, hm, j, hl, hj, hq⟩ := h
      simp [w_System_digits, wVar, wC, w2, w1, wNil, wCons, wTup, wLstO, wFz, wLk, wOwn, wAnd, wOr, wNot, wB, wYes, wIf, wFldC, wCB, wCBL, wCall0, wMeth0, wMethN0, wMakeK0, wMake0, sSeq, sNext, sNever, sRet, sRetN, sRetO, sIf, sAsg, sAsgO, sPar, sParO, sPar3, sParO3, sAsgG, gTupD, setAll, sAug, sApp, sFldI, tyAnd, tyOr, tyNot, iRg1, iRg2, iLst, iTupW, sFor, dAdd, dSub, dMul, dMulT, dDiv, dMod, dPow, dNeg, dLt, dLe, dGt, dGe, dIsN, isNon, dNotN, dEq, dNe, dIx, dLen, dInt, dAbs, dMax2, dMin2, lLen, lTup, isA, envOf, envI, putD, gVar, wRev, wRevT, wIxL, wSl, wSlO, wNoP, wPart, wBag, okD_int, okD_bl, okD_non, eqD_int, eqD_bl, wipeE, S_is_number, S_digits_of, step_look]
      have hm' : m ≤ 10000000000000000000000000000000000000000 := by omega
      exact ⟨⟨h0, hm'⟩, fun _ _ => ⟨hk, hm', j, hl, hj, hq⟩⟩
    | _ => exact h.elim
  · exact h.elim
theorem un_r (k : Int) (n : Nat) : (pr k n).2 = un k n := rfl
theorem loop_units (A : Ad) {k : Int} {x : D} {n : DN} {N : Nat} (hk : K3 k) (hN : N ≤ 1000) : ∀ (t i : Nat) (c : SV), i + t = N →
    (∀ c', n.nx [.d (sysD A k), .d x, .own ((unL k N).map .int), .d (.int (pr k N).1), .d (.int (un k N)), c']) →
    sLoop (lb_System_units_1 A) (gVar 5) n ((List.range' i t).map fun (y : Nat) => D.int (0 + y)) [.d (sysD A k), .d x, .own ((unL k i).map .int), .d (.int (pr k i).1), .d (.int (un k i)), c]
  | 0, i, c, e, h => by
    have : i = N := by omega
    subst this
    exact h c
  | t + 1, i, c, e, h => by
    have ih := loop_units A (x := x) (n := n) hk hN t (i + 1) (.d (.int (0 + i))) (by omega) h
    rw [List.range'_succ, List.map_cons, sLoop]
    simp [lb_System_units_1, wVar, wC, w2, w1, wNil, wCons, wTup, wLstO, wFz, wLk, wOwn, wAnd, wOr, wNot, wB, wYes, wIf, wFldC, wCB, wCBL, wCall0, wMeth0, wMethN0, wMakeK0, wMake0, sSeq, sNext, sNever, sRet, sRetN, sRetO, sIf, sAsg, sAsgO, sPar, sParO, sPar3, sParO3, sAsgG, gTupD, setAll, sAug, sApp, sFldI, tyAnd, tyOr, tyNot, iRg1, iRg2, iLst, iTupW, sFor, dAdd, dSub, dMul, dMulT, dDiv, dMod, dPow, dNeg, dLt, dLe, dGt, dGe, dIsN, isNon, dNotN, dEq, dNe, dIx, dLen, dInt, dAbs, dMax2, dMin2, lLen, lTup, isA, envOf, envI, putD, gVar, wRev, wRevT, wIxL, wSl, wSlO, wNoP, wPart, wBag, okD_int, okD_bl, okD_non, eqD_int, eqD_bl, wipeE, unL_len, sysD, step_look]
    refine ⟨by have : (1000 : Nat) < sizeLine := by decide
               omega, .inl (k3_mul hk), ?_⟩
    rw [unL_s, List.map_append, pr_1, un_s, sysD] at ih
    simp at ih
    exact ih
theorem hw_System_units (A : Ad) : ∀ ds er q, ds.length = 2 → S_System_units A ds er q → w_System_units A { nx := fun _ => q .non, rt := q, er := er } (envOf 6 ds) := by
  intro ds er q hlen h
  unfold S_System_units at h
  split at h
  · rename_i x m
    cases x with
    | ins C fs =>
      obtain ⟨rfl, k, rfl, hk, h0, hm, hq⟩ := h
      simp [w_System_units, wVar, wC, w2, w1, wNil, wCons, wTup, wLstO, wFz, wLk, wOwn, wAnd, wOr, wNot, wB, wYes, wIf, wFldC, wCB, wCBL, wCall0, wMeth0, wMethN0, wMakeK0, wMake0, sSeq, sNext, sNever, sRet, sRetN, sRetO, sIf, sAsg, sAsgO, sPar, sParO, sPar3, sParO3, sAsgG, gTupD, setAll, sAug, sApp, sFldI, tyAnd, tyOr, tyNot, iRg1, iRg2, iLst, iTupW, sFor, dAdd, dSub, dMul, dMulT, dDiv, dMod, dPow, dNeg, dLt, dLe, dGt, dGe, dIsN, isNon, dNotN, dEq, dNe, dIx, dLen, dInt, dAbs, dMax2, dMin2, lLen, lTup, isA, envOf, envI, putD, gVar, wRev, wRevT, wIxL, wSl, wSlO, wNoP, wPart, wBag, okD_int, okD_bl, okD_non, eqD_int, eqD_bl, wipeE, S_is_number]
      obtain ⟨m, rfl⟩ := Int.eq_ofNat_of_zero_le h0
      refine ⟨⟨h0, hm⟩, fun _ _ => ⟨by omega, by omega, ?_⟩⟩
      rw [rngD_eq]
      refine loop_units A (N := m) hk (by omega) m 0 .un (by omega) fun c' => ?_
      simp [wVar, wC, w2, w1, wNil, wCons, wTup, wLstO, wFz, wLk, wOwn, wAnd, wOr, wNot, wB, wYes, wIf, wFldC, wCB, wCBL, wCall0, wMeth0, wMethN0, wMakeK0, wMake0, sSeq, sNext, sNever, sRet, sRetN, sRetO, sIf, sAsg, sAsgO, sPar, sParO, sPar3, sParO3, sAsgG, gTupD, setAll, sAug, sApp, sFldI, tyAnd, tyOr, tyNot, iRg1, iRg2, iLst, iTupW, sFor, dAdd, dSub, dMul, dMulT, dDiv, dMod, dPow, dNeg, dLt, dLe, dGt, dGe, dIsN, isNon, dNotN, dEq, dNe, dIx, dLen, dInt, dAbs, dMax2, dMin2, lLen, lTup, isA, envOf, envI, putD, gVar, wRev, wRevT, wIxL, wSl, wSlO, wNoP, wPart, wBag, okD_int, okD_bl, okD_non, eqD_int, eqD_bl, wipeE]
      simpa using hq
    | _ => exact h.elim
  · exact h.elim
theorem loop_num (A : Ad) {k : Int} {x : SV} {n : DN} (hk : K3 k) : ∀ (l : List Int) (f b u : Int) (c : SV), (∀ d ∈ l, 0 ≤ d ∧ d ≤ k) →
    (∀ b' u' c', n.nx [.d (.int k), x, .d (.int (nv k f b u l)), b', u', c']) → sLoop (lb_number_of_1 A) (gVar 5) n (l.map .int) [.d (.int k), x, .d (.int f), .d (.int b), .d (.int u), c]
  | [], f, b, u, c, _, h => h _ _ _
  | d :: l, f, b, u, c, hd, h => by
    obtain ⟨h1, h2⟩ := hd d (by simp)
    have h3 := hk.2
    have ih := loop_num A (x := x) (n := n) hk l (f + d * u) u (k * u + b) (.d (.int d)) (fun y hy => hd y (by simp [hy])) h
    rw [List.map_cons, sLoop]
    simp [lb_number_of_1, wVar, wC, w2, w1, wNil, wCons, wTup, wLstO, wFz, wLk, wOwn, wAnd, wOr, wNot, wB, wYes, wIf, wFldC, wCB, wCBL, wCall0, wMeth0, wMethN0, wMakeK0, wMake0, sSeq, sNext, sNever, sRet, sRetN, sRetO, sIf, sAsg, sAsgO, sPar, sParO, sPar3, sParO3, sAsgG, gTupD, setAll, sAug, sApp, sFldI, tyAnd, tyOr, tyNot, iRg1, iRg2, iLst, iTupW, sFor, dAdd, dSub, dMul, dMulT, dDiv, dMod, dPow, dNeg, dLt, dLe, dGt, dGe, dIsN, isNon, dNotN, dEq, dNe, dIx, dLen, dInt, dAbs, dMax2, dMin2, lLen, lTup, isA, envOf, envI, putD, gVar, wRev, wRevT, wIxL, wSl, wSlO, wNoP, wPart, wBag, okD_int, okD_bl, okD_non, eqD_int, eqD_bl, wipeE]
    exact ⟨.inl (.inl ⟨by omega, by omega⟩), .inl (k3_mul hk), ih⟩
theorem hw_number_of (A : Ad) : ∀ ds er q, ds.length = 2 → S_number_of A ds er q → w_number_of A { nx := fun _ => q .non, rt := q, er := er } (envOf 6 ds) := by
  intro ds er q hlen h
  unfold S_number_of at h
  split at h
  · rename_i k d
    cases d with
    | tup t =>
      obtain ⟨l, rfl, hk, hd, hq⟩ := h
      simp [w_number_of, wVar, wC, w2, w1, wNil, wCons, wTup, wLstO, wFz, wLk, wOwn, wAnd, wOr, wNot, wB, wYes, wIf, wFldC, wCB, wCBL, wCall0, wMeth0, wMethN0, wMakeK0, wMake0, sSeq, sNext, sNever, sRet, sRetN, sRetO, sIf, sAsg, sAsgO, sPar, sParO, sPar3, sParO3, sAsgG, gTupD, setAll, sAug, sApp, sFldI, tyAnd, tyOr, tyNot, iRg1, iRg2, iLst, iTupW, sFor, dAdd, dSub, dMul, dMulT, dDiv, dMod, dPow, dNeg, dLt, dLe, dGt, dGe, dIsN, isNon, dNotN, dEq, dNe, dIx, dLen, dInt, dAbs, dMax2, dMin2, lLen, lTup, isA, envOf, envI, putD, gVar, wRev, wRevT, wIxL, wSl, wSlO, wNoP, wPart, wBag, okD_int, okD_bl, okD_non, eqD_int, eqD_bl, wipeE]
      refine ⟨by decide, ?_⟩
      rw [← List.map_reverse]
      refine loop_num A hk l.reverse 0 1 1 .un (fun y hy => hd y (List.mem_reverse.mp hy)) fun b' u' c' => ?_
      simp [wVar, wC, w2, w1, wNil, wCons, wTup, wLstO, wFz, wLk, wOwn, wAnd, wOr, wNot, wB, wYes, wIf, wFldC, wCB, wCBL, wCall0, wMeth0, wMethN0, wMakeK0, wMake0, sSeq, sNext, sNever, sRet, sRetN, sRetO, sIf, sAsg, sAsgO, sPar, sParO, sPar3, sParO3, sAsgG, gTupD, setAll, sAug, sApp, sFldI, tyAnd, tyOr, tyNot, iRg1, iRg2, iLst, iTupW, sFor, dAdd, dSub, dMul, dMulT, dDiv, dMod, dPow, dNeg, dLt, dLe, dGt, dGe, dIsN, isNon, dNotN, dEq, dNe, dIx, dLen, dInt, dAbs, dMax2, dMin2, lLen, lTup, isA, envOf, envI, putD, gVar, wRev, wRevT, wIxL, wSl, wSlO, wNoP, wPart, wBag, okD_int, okD_bl, okD_non, eqD_int, eqD_bl, wipeE]
      exact hq
    | _ => exact h.elim
  · exact h.elim
theorem hw_System_is_digits (A : Ad) : ∀ ds er q, ds.length = 2 → S_System_is_digits A ds er q → w_System_is_digits A { nx := fun _ => q .non, rt := q, er := er } (envOf 4 ds) := by
  intro ds er q hlen h
  unfold S_System_is_digits at h
  split at h
  · rename_i x d
    cases x with
    | ins C fs =>
      obtain ⟨rfl, k, rfl, h⟩ := h
      cases d with
      | tup t =>
        obtain ⟨l, rfl, hk, hl, hq⟩ := h
        simp [w_System_is_digits, wVar, wC, w2, w1, wNil, wCons, wTup, wLstO, wFz, wLk, wOwn, wAnd, wOr, wNot, wB, wYes, wIf, wFldC, wCB, wCBL, wCall0, wMeth0, wMethN0, wMakeK0, wMake0, sSeq, sNext, sNever, sRet, sRetN, sRetO, sIf, sAsg, sAsgO, sPar, sParO, sPar3, sParO3, sAsgG, gTupD, setAll, sAug, sApp, sFldI, tyAnd, tyOr, tyNot, iRg1, iRg2, iLst, iTupW, sFor, dAdd, dSub, dMul, dMulT, dDiv, dMod, dPow, dNeg, dLt, dLe, dGt, dGe, dIsN, isNon, dNotN, dEq, dNe, dIx, dLen, dInt, dAbs, dMax2, dMin2, lLen, lTup, isA, envOf, envI, putD, gVar, wRev, wRevT, wIxL, wSl, wSlO, wNoP, wPart, wBag, okD_int, okD_bl, okD_non, eqD_int, eqD_bl, wipeE, isT, bts, wLc]
        refine DL.comp_map (c := D.int) (ev := fun d => [.d (sysD A k), .d (.tup (l.map .int)), .d (.int d), .un]) (f := fun d => .bl (decide (0 ≤ d) && decide (d ≤ k))) (fun d _ Q h => ?_) (fun d _ Q h => ?_) ?_ ?_
        · simpa [gVar, sysD] using h
        · simp [wVar, wC, w2, w1, wNil, wCons, wTup, wLstO, wFz, wLk, wOwn, wAnd, wOr, wNot, wB, wYes, wIf, wFldC, wCB, wCBL, wCall0, wMeth0, wMethN0, wMakeK0, wMake0, sSeq, sNext, sNever, sRet, sRetN, sRetO, sIf, sAsg, sAsgO, sPar, sParO, sPar3, sParO3, sAsgG, gTupD, setAll, sAug, sApp, sFldI, tyAnd, tyOr, tyNot, iRg1, iRg2, iLst, iTupW, sFor, dAdd, dSub, dMul, dMulT, dDiv, dMod, dPow, dNeg, dLt, dLe, dGt, dGe, dIsN, isNon, dNotN, dEq, dNe, dIx, dLen, dInt, dAbs, dMax2, dMin2, lLen, lTup, isA, envOf, envI, putD, gVar, wRev, wRevT, wIxL, wSl, wSlO, wNoP, wPart, wBag, okD_int, okD_bl, okD_non, eqD_int, eqD_bl, wipeE, S_is_number, step_look, sysD]
          simpa using h
        · rw [show sizeLine = 16777216 from rfl]
          omega
        · refine all_map _ l _ ?_
          unfold isDg at hq
          cases e : l.all fun d => decide (0 ≤ d) && decide (d ≤ k) with
          | false =>
            rw [e] at hq
            exact ⟨fun _ => hq, fun z => nomatch z⟩
          | true =>
            rw [e, Bool.true_and] at hq
            refine ⟨(fun z => nomatch z), fun _ => ⟨by omega, ?_⟩⟩
            unfold rngD
            refine DL.comp_map (c := fun (i : Nat) => D.int (1 + i)) (ev := fun i => [.d (sysD A k), .d (.tup (l.map .int)), .un, .d (.int (1 + i))]) (f := fun i => .bl (pairOk k l i)) (fun d _ Q h => ?_) (fun i hi Q h => ?_) ?_ ?_
            · simpa [gVar, sysD] using h
            · have hi := List.mem_range.mp hi
              have h1 : i < l.length := by omega
              have h2 : i + 1 < l.length := by omega
              have e1 : (1 + (i : Int) - 1) = ((i : Nat) : Int) := by omega
              have e2 : (1 + (i : Int)) = ((i + 1 : Nat) : Int) := by omega
              unfold pairOk at h
              rw [List.getElem?_eq_getElem h1, List.getElem?_eq_getElem h2] at h
              simp [wVar, wC, w2, w1, wNil, wCons, wTup, wLstO, wFz, wLk, wOwn, wAnd, wOr, wNot, wB, wYes, wIf, wFldC, wCB, wCBL, wCall0, wMeth0, wMethN0, wMakeK0, wMake0, sSeq, sNext, sNever, sRet, sRetN, sRetO, sIf, sAsg, sAsgO, sPar, sParO, sPar3, sParO3, sAsgG, gTupD, setAll, sAug, sApp, sFldI, tyAnd, tyOr, tyNot, iRg1, iRg2, iLst, iTupW, sFor, dAdd, dSub, dMul, dMulT, dDiv, dMod, dPow, dNeg, dLt, dLe, dGt, dGe, dIsN, isNon, dNotN, dEq, dNe, dIx, dLen, dInt, dAbs, dMax2, dMin2, lLen, lTup, isA, envOf, envI, putD, gVar, wRev, wRevT, wIxL, wSl, wSlO, wNoP, wPart, wBag, okD_int, okD_bl, okD_non, eqD_int, eqD_bl, wipeE, step_look, sysD]
              rw [e1, e2, atD_nat, atD_nat]
              simp [h1, h2]
              by_cases hlt : l[i] < k
              · simp_all
              · have e3 := decide_eq_false hlt
                have h : Q (D.bl (decide (l[i] < k) || l[i + 1] == 0)) := h
                rw [e3] at h ⊢
                refine ⟨okD_int _, ?_⟩
                rw [eqD_int]
                exact h
            · rw [List.length_range, show sizeLine = 16777216 from rfl]
              omega
            · exact all_map _ _ _ hq
      | _ => exact h.elim
    | _ => exact h.elim
  · exact h.elim
theorem hw_System_number (A : Ad) : ∀ ds er q, ds.length = 2 → S_System_number A ds er q → w_System_number A { nx := fun _ => q .non, rt := q, er := er } (envOf 2 ds) := by
  intro ds er q hlen h
  unfold S_System_number at h
  split at h
  · rename_i x d
    cases x with
    | ins C fs =>
      obtain ⟨rfl, k, rfl, h⟩ := h
      cases d with
      | tup t =>
        obtain ⟨l, rfl, hk, hl, hd, hq⟩ := h
        simp [w_System_number, wVar, wC, w2, w1, wNil, wCons, wTup, wLstO, wFz, wLk, wOwn, wAnd, wOr, wNot, wB, wYes, wIf, wFldC, wCB, wCBL, wCall0, wMeth0, wMethN0, wMakeK0, wMake0, sSeq, sNext, sNever, sRet, sRetN, sRetO, sIf, sAsg, sAsgO, sPar, sParO, sPar3, sParO3, sAsgG, gTupD, setAll, sAug, sApp, sFldI, tyAnd, tyOr, tyNot, iRg1, iRg2, iLst, iTupW, sFor, dAdd, dSub, dMul, dMulT, dDiv, dMod, dPow, dNeg, dLt, dLe, dGt, dGe, dIsN, isNon, dNotN, dEq, dNe, dIx, dLen, dInt, dAbs, dMax2, dMin2, lLen, lTup, isA, envOf, envI, putD, gVar, wRev, wRevT, wIxL, wSl, wSlO, wNoP, wPart, wBag, okD_int, okD_bl, okD_non, eqD_int, eqD_bl, wipeE, S_System_is_digits, S_number_of, isSys, isInts, step_look]
        have hb : ∀ d : Int, d ∈ l → 0 ≤ d ∧ d ≤ k := fun d hx => by
          unfold isDg at hd
          have := List.all_eq_true.mp (Bool.and_eq_true_iff.mp hd).1 d hx
          simpa using this
        exact ⟨by decide, l, rfl, hk, by omega, hd, fun _ => ⟨by omega, fun _ => ⟨l, rfl, hk, hb, hq⟩⟩⟩
      | _ => exact h.elim
    | _ => exact h.elim
  · exact h.elim
theorem hw_System_eq (A : Ad) : ∀ ds er q, ds.length = 2 → S_System_eq A ds er q → w_System_eq A { nx := fun _ => q .non, rt := q, er := er } (envOf 2 ds) := by
  intro ds er q hlen h
  unfold S_System_eq at h
  split at h
  · rename_i x y
    cases x with
    | ins C fs =>
      obtain ⟨rfl, k, rfl, h⟩ := h
      cases y with
      | ins C fs =>
        obtain ⟨rfl, j, rfl, h⟩ := h
        simp [w_System_eq, wVar, wC, w2, w1, wNil, wCons, wTup, wLstO, wFz, wLk, wOwn, wAnd, wOr, wNot, wB, wYes, wIf, wFldC, wCB, wCBL, wCall0, wMeth0, wMethN0, wMakeK0, wMake0, sSeq, sNext, sNever, sRet, sRetN, sRetO, sIf, sAsg, sAsgO, sPar, sParO, sPar3, sParO3, sAsgG, gTupD, setAll, sAug, sApp, sFldI, tyAnd, tyOr, tyNot, iRg1, iRg2, iLst, iTupW, sFor, dAdd, dSub, dMul, dMulT, dDiv, dMod, dPow, dNeg, dLt, dLe, dGt, dGe, dIsN, isNon, dNotN, dEq, dNe, dIx, dLen, dInt, dAbs, dMax2, dMin2, lLen, lTup, isA, envOf, envI, putD, gVar, wRev, wRevT, wIxL, wSl, wSlO, wNoP, wPart, wBag, okD_int, okD_bl, okD_non, eqD_int, eqD_bl, wipeE, isO, cd, cdOf, step_look]
        simpa using h
      | _ =>
        obtain ⟨h1, h2⟩ := h
        simp [w_System_eq, wVar, wC, w2, w1, wNil, wCons, wTup, wLstO, wFz, wLk, wOwn, wAnd, wOr, wNot, wB, wYes, wIf, wFldC, wCB, wCBL, wCall0, wMeth0, wMethN0, wMakeK0, wMake0, sSeq, sNext, sNever, sRet, sRetN, sRetO, sIf, sAsg, sAsgO, sPar, sParO, sPar3, sParO3, sAsgG, gTupD, setAll, sAug, sApp, sFldI, tyAnd, tyOr, tyNot, iRg1, iRg2, iLst, iTupW, sFor, dAdd, dSub, dMul, dMulT, dDiv, dMod, dPow, dNeg, dLt, dLe, dGt, dGe, dIsN, isNon, dNotN, dEq, dNe, dIx, dLen, dInt, dAbs, dMax2, dMin2, lLen, lTup, isA, envOf, envI, putD, gVar, wRev, wRevT, wIxL, wSl, wSlO, wNoP, wPart, wBag, okD_int, okD_bl, okD_non, eqD_int, eqD_bl, wipeE, h1]
        exact h2
    | _ => exact h.elim
  · exact h.elim
theorem unL_s2 (k : Int) (n : Nat) : unL k (n + 2) = unL k n ++ [un k n, un k (n + 1)] := by
  rw [unL_s, unL_s, List.append_assoc]
  rfl
theorem loop_lunits (A : Ad) {k : Int} {x : SV} {n : DN} {N : Nat} (hk : K3 k) (hN : N ≤ 1000) : ∀ (t i : Nat) (c : SV), i + t = N →
    (∀ c', n.nx [.d (.int k), x, .own ((unL k (N + 2)).map .int), c']) →
    sLoop (lb_law_units_1 A) (gVar 3) n ((List.range' i t).map fun (y : Nat) => D.int (0 + y)) [.d (.int k), x, .own ((unL k (i + 2)).map .int), c]
  | 0, i, c, e, h => by
    have : i = N := by omega
    subst this
    exact h c
  | t + 1, i, c, e, h => by
    have ih := loop_lunits A (x := x) (n := n) hk hN t (i + 1) (.d (.int (0 + i))) (by omega) h
    rw [List.range'_succ, List.map_cons, sLoop]
    have e1 : ∀ k : Int, (unL k (i + 2)).map D.int = (unL k i).map D.int ++ [.int (un k i), .int (un k (i + 1))] := fun k => by
      rw [unL_s2, List.map_append]
      rfl
    have e2 : atD ((unL k (i + 2)).map D.int) (-1) = some (.int (un k (i + 1))) := by
      rw [e1, show ∀ (l : List D) (a b : D), l ++ [a, b] = (l ++ [a]) ++ [b] from fun l a b => by simp]
      exact atD_last
    have e3 : atD ((unL k (i + 2)).map D.int) (-2) = some (.int (un k i)) := by
      rw [e1]
      exact atD_last2
    simp [lb_law_units_1, wVar, wC, w2, w1, wNil, wCons, wTup, wLstO, wFz, wLk, wOwn, wAnd, wOr, wNot, wB, wYes, wIf, wFldC, wCB, wCBL, wCall0, wMeth0, wMethN0, wMakeK0, wMake0, sSeq, sNext, sNever, sRet, sRetN, sRetO, sIf, sAsg, sAsgO, sPar, sParO, sPar3, sParO3, sAsgG, gTupD, setAll, sAug, sApp, sFldI, tyAnd, tyOr, tyNot, iRg1, iRg2, iLst, iTupW, sFor, dAdd, dSub, dMul, dMulT, dDiv, dMod, dPow, dNeg, dLt, dLe, dGt, dGe, dIsN, isNon, dNotN, dEq, dNe, dIx, dLen, dInt, dAbs, dMax2, dMin2, lLen, lTup, isA, envOf, envI, putD, gVar, wRev, wRevT, wIxL, wSl, wSlO, wNoP, wPart, wBag, okD_int, okD_bl, okD_non, eqD_int, eqD_bl, wipeE, unL_len, e2, e3]
    refine ⟨.inl (k3_mul hk), by rw [show sizeLine = 16777216 from rfl]; omega, ?_⟩
    rw [show i + 1 + 2 = (i + 2) + 1 from rfl, unL_s, List.map_append, un_2] at ih
    simp at ih
    exact ih
theorem hw_law_units (A : Ad) : ∀ ds er q, ds.length = 2 → S_law_units A ds er q → w_law_units A { nx := fun _ => q .non, rt := q, er := er } (envOf 4 ds) := by
  intro ds er q hlen h
  unfold S_law_units at h
  split at h
  · rename_i k n
    obtain ⟨hk, h0, hn, hq⟩ := h
    simp [w_law_units, wVar, wC, w2, w1, wNil, wCons, wTup, wLstO, wFz, wLk, wOwn, wAnd, wOr, wNot, wB, wYes, wIf, wFldC, wCB, wCBL, wCall0, wMeth0, wMethN0, wMakeK0, wMake0, sSeq, sNext, sNever, sRet, sRetN, sRetO, sIf, sAsg, sAsgO, sPar, sParO, sPar3, sParO3, sAsgG, gTupD, setAll, sAug, sApp, sFldI, tyAnd, tyOr, tyNot, iRg1, iRg2, iLst, iTupW, sFor, dAdd, dSub, dMul, dMulT, dDiv, dMod, dPow, dNeg, dLt, dLe, dGt, dGe, dIsN, isNon, dNotN, dEq, dNe, dIx, dLen, dInt, dAbs, dMax2, dMin2, lLen, lTup, isA, envOf, envI, putD, gVar, wRev, wRevT, wIxL, wSl, wSlO, wNoP, wPart, wBag, okD_int, okD_bl, okD_non, eqD_int, eqD_bl, wipeE]
    obtain ⟨m, rfl⟩ := Int.eq_ofNat_of_zero_le h0
    refine ⟨by decide, by omega, by omega, ?_⟩
    rw [rngD_eq]
    have e : [D.int 1, D.int (k + 1)] = (unL k (0 + 2)).map D.int := by
      rw [unL_s2]
      simp [unL, un_0, un_1]
    rw [e]
    refine loop_lunits A (N := m) hk (by omega) m 0 .un (by omega) fun c' => ?_
    simp [wVar, wC, w2, w1, wNil, wCons, wTup, wLstO, wFz, wLk, wOwn, wAnd, wOr, wNot, wB, wYes, wIf, wFldC, wCB, wCBL, wCall0, wMeth0, wMethN0, wMakeK0, wMake0, sSeq, sNext, sNever, sRet, sRetN, sRetO, sIf, sAsg, sAsgO, sPar, sParO, sPar3, sParO3, sAsgG, gTupD, setAll, sAug, sApp, sFldI, tyAnd, tyOr, tyNot, iRg1, iRg2, iLst, iTupW, sFor, dAdd, dSub, dMul, dMulT, dDiv, dMod, dPow, dNeg, dLt, dLe, dGt, dGe, dIsN, isNon, dNotN, dEq, dNe, dIx, dLen, dInt, dAbs, dMax2, dMin2, lLen, lTup, isA, envOf, envI, putD, gVar, wRev, wRevT, wIxL, wSl, wSlO, wNoP, wPart, wBag, okD_int, okD_bl, okD_non, eqD_int, eqD_bl, wipeE, cutD_to]
    have e2 : (unL k (m + 2)).take m = unL k m := by
      rw [unL_s2]
      have := unL_len k m
      rw [List.take_append_of_le_length (by omega), List.take_of_length_le (by omega)]
    rw [← List.map_take, e2]
    exact hq
  · exact h.elim
theorem loop_bag (A : Ad) {x y cell : SV} {k : Int} {n : DN} : ∀ (l : List Int) (seed : Int) (c : SV), (∀ seed c, n.nx [x, .d (.int k), cell, .d (.int seed), c, .un]) →
    sLoop (lb_law_bag_1 A) (gVar 4) n (l.map .int) [x, .d (.int k), cell, .d (.int seed), c, .un]
  | [], seed, c, h => h seed c
  | d :: l, seed, c, h => by
    have ih := fun seed c => loop_bag A (x := x) (y := y) (cell := cell) (k := k) (n := n) l seed c h
    rw [List.map_cons, sLoop]
    simp [lb_law_bag_1, wVar, wC, w2, w1, wNil, wCons, wTup, wLstO, wFz, wLk, wOwn, wAnd, wOr, wNot, wB, wYes, wIf, wFldC, wCB, wCBL, wCall0, wMeth0, wMethN0, wMakeK0, wMake0, sSeq, sNext, sNever, sRet, sRetN, sRetO, sIf, sAsg, sAsgO, sPar, sParO, sPar3, sParO3, sAsgG, gTupD, setAll, sAug, sApp, sFldI, tyAnd, tyOr, tyNot, iRg1, iRg2, iLst, iTupW, sFor, dAdd, dSub, dMul, dMulT, dDiv, dMod, dPow, dNeg, dLt, dLe, dGt, dGe, dIsN, isNon, dNotN, dEq, dNe, dIx, dLen, dInt, dAbs, dMax2, dMin2, lLen, lTup, isA, envOf, envI, putD, gVar, wRev, wRevT, wIxL, wSl, wSlO, wNoP, wPart, wBag, okD_int, okD_bl, okD_non, eqD_int, eqD_bl, wipeE]
    exact ⟨.inl (.inr (by decide)), .inl (.inl (by decide)), ih _ _⟩
theorem hw_law_bag (A : Ad) : ∀ ds er q, ds.length = 2 → S_law_bag A ds er q → w_law_bag A { nx := fun _ => q .non, rt := q, er := er } (envOf 6 ds) := by
  intro ds er q hlen h
  unfold S_law_bag at h
  split at h
  · rename_i ns k
    obtain ⟨h0, hq⟩ := h
    simp [w_law_bag, wVar, wC, w2, w1, wNil, wCons, wTup, wLstO, wFz, wLk, wOwn, wAnd, wOr, wNot, wB, wYes, wIf, wFldC, wCB, wCBL, wCall0, wMeth0, wMethN0, wMakeK0, wMake0, sSeq, sNext, sNever, sRet, sRetN, sRetO, sIf, sAsg, sAsgO, sPar, sParO, sPar3, sParO3, sAsgG, gTupD, setAll, sAug, sApp, sFldI, tyAnd, tyOr, tyNot, iRg1, iRg2, iLst, iTupW, sFor, dAdd, dSub, dMul, dMulT, dDiv, dMod, dPow, dNeg, dLt, dLe, dGt, dGe, dIsN, isNon, dNotN, dEq, dNe, dIx, dLen, dInt, dAbs, dMax2, dMin2, lLen, lTup, isA, envOf, envI, putD, gVar, wRev, wRevT, wIxL, wSl, wSlO, wNoP, wPart, wBag, okD_int, okD_bl, okD_non, eqD_int, eqD_bl, wipeE]
    have e7 : cutD ns none (some 7) = ns.take 7 := cutD_to (n := 7)
    have fin : ∀ cell seed : Int, 0 ≤ (seed + 40487 * (cell % 999961)) % 2147483587 := fun cell seed => Int.emod_nonneg _ (by decide)
    refine ⟨fun h => ?_, fun h => ?_⟩
    · obtain ⟨k, rfl⟩ := Int.eq_ofNat_of_zero_le h0
      rw [atD_nat, List.getElem?_eq_getElem (by omega)]
      refine ⟨.inl (.inl (by decide)), ?_⟩
      simp only [dSl]
      rw [e7]
      refine loop_bag A (y := .un) _ _ _ fun seed c => ?_
      simp [wVar, wC, w2, w1, wNil, wCons, wTup, wLstO, wFz, wLk, wOwn, wAnd, wOr, wNot, wB, wYes, wIf, wFldC, wCB, wCBL, wCall0, wMeth0, wMethN0, wMakeK0, wMake0, sSeq, sNext, sNever, sRet, sRetN, sRetO, sIf, sAsg, sAsgO, sPar, sParO, sPar3, sParO3, sAsgG, gTupD, setAll, sAug, sApp, sFldI, tyAnd, tyOr, tyNot, iRg1, iRg2, iLst, iTupW, sFor, dAdd, dSub, dMul, dMulT, dDiv, dMod, dPow, dNeg, dLt, dLe, dGt, dGe, dIsN, isNon, dNotN, dEq, dNe, dIx, dLen, dInt, dAbs, dMax2, dMin2, lLen, lTup, isA, envOf, envI, putD, gVar, wRev, wRevT, wIxL, wSl, wSlO, wNoP, wPart, wBag, okD_int, okD_bl, okD_non, eqD_int, eqD_bl, wipeE]
      generalize ns[k] = cell
      exact ⟨fun hc => ⟨.inl (.inl (by decide)), by decide, ⟨by split <;> omega, fin _ _⟩, hq⟩, fun hc => ⟨⟨by decide, by decide, by decide⟩, fun _ => ⟨.inl (.inl (by decide)), by decide, ⟨by split <;> omega, fin _ _⟩, hq⟩, fun _ => ⟨.inl (.inl (by decide)), by decide, fin _ _, hq⟩⟩⟩
    · refine ⟨.inl (.inl (by decide)), ?_⟩
      simp only [dSl]
      rw [e7]
      refine loop_bag A (y := .un) _ _ _ fun seed c => ?_
      simp [wVar, wC, w2, w1, wNil, wCons, wTup, wLstO, wFz, wLk, wOwn, wAnd, wOr, wNot, wB, wYes, wIf, wFldC, wCB, wCBL, wCall0, wMeth0, wMethN0, wMakeK0, wMake0, sSeq, sNext, sNever, sRet, sRetN, sRetO, sIf, sAsg, sAsgO, sPar, sParO, sPar3, sParO3, sAsgG, gTupD, setAll, sAug, sApp, sFldI, tyAnd, tyOr, tyNot, iRg1, iRg2, iLst, iTupW, sFor, dAdd, dSub, dMul, dMulT, dDiv, dMod, dPow, dNeg, dLt, dLe, dGt, dGe, dIsN, isNon, dNotN, dEq, dNe, dIx, dLen, dInt, dAbs, dMax2, dMin2, lLen, lTup, isA, envOf, envI, putD, gVar, wRev, wRevT, wIxL, wSl, wSlO, wNoP, wPart, wBag, okD_int, okD_bl, okD_non, eqD_int, eqD_bl, wipeE]
      exact ⟨⟨by decide, by decide, by decide⟩, .inl (.inl (by decide)), by decide, Int.emod_nonneg _ (by decide), hq⟩
  · exact h.elim
/-! ### digits tell the number -/
theorem dg_s (k m : Int) (j : Nat) : dg k m (j + 1) = (m / un k j) :: dg k (m % un k j) j := by
  unfold dg
  rw [unL_s, List.reverse_append]
  rfl
theorem dg_len (k : Int) : ∀ (j : Nat) (m : Int), (dg k m j).length = j
  | 0, _ => rfl
  | j + 1, m => by
    rw [dg_s, List.length_cons, dg_len k j]
theorem dg_in {k : Int} (hk : K3 k) : ∀ (j : Nat) (m : Int), 0 ≤ m → m < un k j → ∀ d ∈ dg k m j, 0 ≤ d ∧ d ≤ k
  | 0, _, _, _, d, hd => by
    cases hd
  | j + 1, m, h0, h1, d, hd => by
    have hp := un_pos hk j
    rw [dg_s] at hd
    rcases List.mem_cons.mp hd with rfl | hd
    · have h2 := un_le hk j
      have h3 : m / un k j < k + 1 := Int.ediv_lt_of_lt_mul (by omega) (by omega)
      exact ⟨Int.ediv_nonneg h0 (by omega), by omega⟩
    · exact dg_in hk j _ (Int.emod_nonneg _ (by omega)) (Int.emod_lt_of_pos _ (by omega)) d hd
theorem nv_app (k : Int) (d : Int) : ∀ (l : List Int) (f : Int) (i : Nat), nv k f (pr k i).1 (pr k i).2 (l ++ [d]) = nv k f (pr k i).1 (pr k i).2 l + d * un k (i + l.length)
  | [], f, i => rfl
  | x :: l, f, i => by
    have ih := nv_app k d l (f + x * (pr k i).2) (i + 1)
    rw [List.cons_append, nv, nv, List.length_cons, show i + (l.length + 1) = i + 1 + l.length by omega]
    exact ih
theorem nv_dg {k : Int} (hk : K3 k) : ∀ (j : Nat) (m : Int), 0 ≤ m → m < un k j → nv k 0 1 1 (dg k m j).reverse = m
  | 0, m, h0, h1 => by
    have : m = 0 := by
      have : un k 0 = 1 := rfl
      omega
    subst this
    rfl
  | j + 1, m, h0, h1 => by
    have hp := un_pos hk j
    have ih := nv_dg hk j (m % un k j) (Int.emod_nonneg _ (by omega)) (Int.emod_lt_of_pos _ (by omega))
    have h2 := nv_app k (m / un k j) (dg k (m % un k j) j).reverse 0 0
    rw [dg_s, List.reverse_cons]
    have h2 : nv k 0 1 1 ((dg k (m % un k j) j).reverse ++ [m / un k j]) = nv k 0 1 1 (dg k (m % un k j) j).reverse + (m / un k j) * un k (0 + (dg k (m % un k j) j).reverse.length) := h2
    rw [h2, ih, List.length_reverse, dg_len, Nat.zero_add]
    have := Int.emod_add_mul_ediv m (un k j)
    rw [Int.mul_comm] at this
    exact this
theorem nv_0 (k : Int) : ∀ (z : Nat) (f b u : Int), nv k f b u (List.replicate z 0) = f
  | 0, _, _, _ => rfl
  | z + 1, f, b, u => by
    rw [List.replicate_succ, nv, nv_0]
    omega
theorem nv_zeros (k : Int) (z : Nat) : ∀ (l : List Int) (f b u : Int), nv k f b u (l ++ List.replicate z 0) = nv k f b u l
  | [], f, b, u => nv_0 k z f b u
  | x :: l, f, b, u => by
    rw [List.cons_append, nv, nv]
    exact nv_zeros k z l _ _ _
def adj (k : Int) : List Int → Prop
  | [] => True
  | [_] => True
  | a :: b :: r => (a < k ∨ b = 0) ∧ adj k (b :: r)
theorem adj_get {k : Int} : ∀ {l : List Int} {i : Nat} {a b : Int}, adj k l → l[i]? = some a → l[i + 1]? = some b → a < k ∨ b = 0
  | [], _, _, _, _, h, _ => by simp at h
  | [_], i, _, _, _, _, h => by simp at h
  | x :: y :: r, 0, a, b, h, h1, h2 => by
    simp at h1 h2
    subst h1
    subst h2
    exact h.1
  | x :: y :: r, i + 1, a, b, h, h1, h2 => adj_get (l := y :: r) (i := i) h.2 (by simpa using h1) (by simpa using h2)
theorem isDg_of {k : Int} {l : List Int} (h1 : ∀ d ∈ l, 0 ≤ d ∧ d ≤ k) (h2 : adj k l) : isDg k l = true := by
  unfold isDg
  rw [Bool.and_eq_true, List.all_eq_true, List.all_eq_true]
  refine ⟨fun d hd => ?_, fun i hi => ?_⟩
  · have := h1 d hd
    simp [this.1, this.2]
  · have hi := List.mem_range.mp hi
    have e1 : i < l.length := by omega
    have e2 : i + 1 < l.length := by omega
    unfold pairOk
    rw [List.getElem?_eq_getElem e1, List.getElem?_eq_getElem e2]
    have := adj_get h2 (List.getElem?_eq_getElem e1) (List.getElem?_eq_getElem e2)
    simpa using this
theorem adj_0 {k : Int} (hk : K3 k) {l : List Int} (h : adj k l) : adj k (0 :: l) := by
  cases l with
  | nil => trivial
  | cons a l => exact ⟨.inl (by have := hk.1; omega), h⟩
theorem adj_zeros {k : Int} (hk : K3 k) {l : List Int} (h : adj k l) : ∀ z : Nat, adj k (List.replicate z 0 ++ l)
  | 0 => h
  | z + 1 => by
    rw [List.replicate_succ, List.cons_append]
    exact adj_0 hk (adj_zeros hk h z)
theorem adj_dg {k : Int} (hk : K3 k) : ∀ (j : Nat) (m : Int), 0 ≤ m → m < un k j → adj k (dg k m j)
  | 0, _, _, _ => trivial
  | 1, m, h0, h1 => by
    rw [dg_s]
    trivial
  | j + 2, m, h0, h1 => by
    have hp := un_pos hk (j + 1)
    have hp0 := un_pos hk j
    have h2 := Int.emod_nonneg m (b := un k (j + 1)) (by omega)
    have h3 := Int.emod_lt_of_pos m (b := un k (j + 1)) (by omega)
    have ih := adj_dg hk (j + 1) (m % un k (j + 1)) h2 h3
    rw [dg_s]
    rw [dg_s] at ih ⊢
    refine ⟨?_, ih⟩
    by_cases z : m / un k (j + 1) < k
    · exact .inl z
    · refine .inr ?_
      have h4 := Int.emod_add_mul_ediv m (un k (j + 1))
      have h5 : un k (j + 1) * k ≤ un k (j + 1) * (m / un k (j + 1)) := Int.mul_le_mul_of_nonneg_left (by omega) (by omega)
      rw [un_2, Int.mul_comm] at h1
      exact Int.ediv_eq_zero_of_lt h2 (by omega)
/-! ### the law's own digits -/
theorem filter_units {k m : Int} {j : Nat} (hk : K3 k) (hl : Lim k m j) : ∀ N, j ≤ N → (unL k N).filter (fun u => decide (u ≤ m)) = unL k j
  | 0, h => by
    have : j = 0 := by omega
    subst this
    rfl
  | N + 1, h => by
    by_cases z : j = N + 1
    · subst z
      refine List.filter_eq_self.mpr fun u hu => ?_
      unfold unL at hu
      obtain ⟨i, hi, rfl⟩ := List.mem_map.mp hu
      exact decide_eq_true (hl.1 i (List.mem_range.mp hi))
    · rw [unL_s, List.filter_append, filter_units hk hl N (by omega)]
      have := un_mono hk (show j ≤ N by omega)
      have h2 := hl.2
      have e : decide (un k N ≤ m) = false := decide_eq_false (by omega)
      rw [List.filter_cons, e]
      simp
def cnt (k u r : Int) : Nat := ((List.range k.toNat).filter fun (i : Nat) => decide ((1 + (i : Int)) * u ≤ r)).length
theorem cnt_eq {k u r : Int} (hk : K3 k) (hu : 0 < u) (h0 : 0 ≤ r) (h1 : r < (k + 1) * u) : (cnt k u r : Int) = r / u := by
  have a1 := Int.emod_add_mul_ediv r u
  have a2 := Int.emod_nonneg r (b := u) (by omega)
  have a3 := Int.emod_lt_of_pos r hu
  have a4 : r / u < k + 1 := Int.ediv_lt_of_lt_mul hu h1
  have a5 : 0 ≤ r / u := Int.ediv_nonneg h0 (by omega)
  generalize r / u = d at *
  have c : ∀ x : Int, (x * u ≤ r) ↔ x ≤ d := fun x => by
    constructor
    · intro h
      by_cases z : x ≤ d
      · exact z
      · have : (d + 1) * u ≤ x * u := Int.mul_le_mul_of_nonneg_right (by omega) (by omega)
        rw [Int.add_mul, Int.one_mul, Int.mul_comm d u] at this
        omega
    · intro h
      have : x * u ≤ d * u := Int.mul_le_mul_of_nonneg_right h (by omega)
      rw [Int.mul_comm d u] at this
      omega
  unfold cnt
  simp only [c]
  have hd : d = 0 ∨ d = 1 ∨ d = 2 ∨ d = 3 := by
    have := hk.2
    omega
  rcases k3_cases hk with rfl | rfl | rfl <;> rcases hd with rfl | rfl | rfl | rfl <;> first | decide | omega
theorem loop_ldigits (A : Ad) {k : Int} {x : SV} {n : DN} (hk : K3 k) : ∀ (j : Nat) (acc : List Int) (r : Int) (c1 c2 : SV), 0 ≤ r → r < un k j → acc.length + j ≤ 1000 →
    (∀ r' c1 c2, n.nx [.d (.int k), x, .own ((acc ++ dg k r j).map .int), .d (.int r'), c1, c2, .un]) →
    sLoop (lb_law_digits_1 A) (gVar 4) n ((unL k j).reverse.map .int) [.d (.int k), x, .own (acc.map .int), .d (.int r), c1, c2, .un]
  | 0, acc, r, c1, c2, _, _, _, h => by
    have h := h r c1 c2
    rw [show dg k r 0 = [] from rfl, List.append_nil] at h
    exact h
  | j + 1, acc, r, c1, c2, h0, h1, hl, h => by
    have hp := un_pos hk j
    have ih := loop_ldigits A (x := x) (n := n) hk j (acc ++ [r / un k j]) (r % un k j) (.d (.int (un k j))) (.d (.int (r / un k j))) (Int.emod_nonneg _ (by omega)) (Int.emod_lt_of_pos _ (by omega)) (by rw [List.length_append]; show acc.length + 1 + j ≤ 1000; omega) (fun r' c1 c2 => by
      rw [List.append_assoc]
      have := h r' c1 c2
      rw [dg_s] at this
      exact this)
    have hc := cnt_eq hk (u := un k j) (r := r) (by omega) h0 (by have := un_le hk j; omega)
    have h3 := hk.1
    have h4 := hk.2
    rw [unL_s, List.reverse_append, List.reverse_singleton, List.singleton_append, List.map_cons, sLoop]
    simp [lb_law_digits_1, wVar, wC, w2, w1, wNil, wCons, wTup, wLstO, wFz, wLk, wOwn, wAnd, wOr, wNot, wB, wYes, wIf, wFldC, wCB, wCBL, wCall0, wMeth0, wMethN0, wMakeK0, wMake0, sSeq, sNext, sNever, sRet, sRetN, sRetO, sIf, sAsg, sAsgO, sPar, sParO, sPar3, sParO3, sAsgG, gTupD, setAll, sAug, sApp, sFldI, tyAnd, tyOr, tyNot, iRg1, iRg2, iLst, iTupW, sFor, dAdd, dSub, dMul, dMulT, dDiv, dMod, dPow, dNeg, dLt, dLe, dGt, dGe, dIsN, isNon, dNotN, dEq, dNe, dIx, dLen, dInt, dAbs, dMax2, dMin2, lLen, lTup, isA, envOf, envI, putD, gVar, wRev, wRevT, wIxL, wSl, wSlO, wNoP, wPart, wBag, okD_int, okD_bl, okD_non, eqD_int, eqD_bl, wipeE, wLc, rngD]
    have hc' : (((List.range k.toNat).filter fun (i : Nat) => decide ((1 + (i : Int)) * un k j ≤ r)).length : Int) = r / un k j := hc
    refine ⟨⟨by omega, by omega⟩, ?_⟩
    refine comp_ok (c := fun (i : Nat) => D.int (1 + i)) (l := List.range k.toNat) (acc := []) (ev := fun i => [.d (.int k), x, .own (acc.map .int), .d (.int r), .d (.int (un k j)), c2, .d (.int (1 + i))]) (p := fun (i : Nat) => decide ((1 + (i : Int)) * un k j ≤ r)) (f := fun (i : Nat) => .int (1 + i)) ?_ ?_ ?_ ?_ ?_
    · intro i _ Q h
      simpa [gVar] using h
    · intro i hi Q h
      have := List.mem_range.mp hi
      simp [wVar, wC, w2, w1, wNil, wCons, wTup, wLstO, wFz, wLk, wOwn, wAnd, wOr, wNot, wB, wYes, wIf, wFldC, wCB, wCBL, wCall0, wMeth0, wMethN0, wMakeK0, wMake0, sSeq, sNext, sNever, sRet, sRetN, sRetO, sIf, sAsg, sAsgO, sPar, sParO, sPar3, sParO3, sAsgG, gTupD, setAll, sAug, sApp, sFldI, tyAnd, tyOr, tyNot, iRg1, iRg2, iLst, iTupW, sFor, dAdd, dSub, dMul, dMulT, dDiv, dMod, dPow, dNeg, dLt, dLe, dGt, dGe, dIsN, isNon, dNotN, dEq, dNe, dIx, dLen, dInt, dAbs, dMax2, dMin2, lLen, lTup, isA, envOf, envI, putD, gVar, wRev, wRevT, wIxL, wSl, wSlO, wNoP, wPart, wBag, okD_int, okD_bl, okD_non, eqD_int, eqD_bl, wipeE]
      exact ⟨.inl (.inl ⟨by omega, by omega⟩), h⟩
    · intro i _ _ Q h
      simp [wVar, wC, w2, w1, wNil, wCons, wTup, wLstO, wFz, wLk, wOwn, wAnd, wOr, wNot, wB, wYes, wIf, wFldC, wCB, wCBL, wCall0, wMeth0, wMethN0, wMakeK0, wMake0, sSeq, sNext, sNever, sRet, sRetN, sRetO, sIf, sAsg, sAsgO, sPar, sParO, sPar3, sParO3, sAsgG, gTupD, setAll, sAug, sApp, sFldI, tyAnd, tyOr, tyNot, iRg1, iRg2, iLst, iTupW, sFor, dAdd, dSub, dMul, dMulT, dDiv, dMod, dPow, dNeg, dLt, dLe, dGt, dGe, dIsN, isNon, dNotN, dEq, dNe, dIx, dLen, dInt, dAbs, dMax2, dMin2, lLen, lTup, isA, envOf, envI, putD, gVar, wRev, wRevT, wIxL, wSl, wSlO, wNoP, wPart, wBag, okD_int, okD_bl, okD_non, eqD_int, eqD_bl, wipeE]
      exact h
    · rw [List.length_range, show sizeLine = 16777216 from rfl]
      show 0 + k.toNat ≤ _
      omega
    · rw [List.nil_append, List.length_map, hc']
      have e : r - r / un k j * un k j = r % un k j := by
        have := Int.emod_add_mul_ediv r (un k j)
        rw [Int.mul_comm]
        omega
      rw [e]
      have h5 : r / un k j < k + 1 := Int.ediv_lt_of_lt_mul (by omega) (by have := un_le hk j; omega)
      have h6 : 0 ≤ r / un k j := Int.ediv_nonneg h0 (by omega)
      refine ⟨by rw [show sizeLine = 16777216 from rfl]; omega, .inl (.inl ⟨by omega, by omega⟩), ?_⟩
      rw [List.map_append, List.map_reverse] at ih
      exact ih
theorem hw_law_digits (A : Ad) : ∀ ds er q, ds.length = 2 → S_law_digits A ds er q → w_law_digits A { nx := fun _ => q .non, rt := q, er := er } (envOf 7 ds) := by
  intro ds er q hlen h
  unfold S_law_digits at h
  split at h
  · rename_i k m
    obtain ⟨hk, h0, hm, j, hl, hj, hq⟩ := h
    simp [w_law_digits, wVar, wC, w2, w1, wNil, wCons, wTup, wLstO, wFz, wLk, wOwn, wAnd, wOr, wNot, wB, wYes, wIf, wFldC, wCB, wCBL, wCall0, wMeth0, wMethN0, wMakeK0, wMake0, sSeq, sNext, sNever, sRet, sRetN, sRetO, sIf, sAsg, sAsgO, sPar, sParO, sPar3, sParO3, sAsgG, gTupD, setAll, sAug, sApp, sFldI, tyAnd, tyOr, tyNot, iRg1, iRg2, iLst, iTupW, sFor, dAdd, dSub, dMul, dMulT, dDiv, dMod, dPow, dNeg, dLt, dLe, dGt, dGe, dIsN, isNon, dNotN, dEq, dNe, dIx, dLen, dInt, dAbs, dMax2, dMin2, lLen, lTup, isA, envOf, envI, putD, gVar, wRev, wRevT, wIxL, wSl, wSlO, wNoP, wPart, wBag, okD_int, okD_bl, okD_non, eqD_int, eqD_bl, wipeE, S_law_units, wLc]
    refine ⟨hk, comp_ok (c := D.int) (l := unL k 198) (acc := []) (ev := fun u => [.d (.int k), .d (.int m), .own [], .d (.int m), .d (.int u), .un, .un]) (p := fun u => decide (u ≤ m)) (f := D.int) ?_ ?_ ?_ ?_ ?_⟩
    · intro i _ Q h
      simpa [gVar] using h
    · intro i hi Q h
      simp [wVar, wC, w2, w1, wNil, wCons, wTup, wLstO, wFz, wLk, wOwn, wAnd, wOr, wNot, wB, wYes, wIf, wFldC, wCB, wCBL, wCall0, wMeth0, wMethN0, wMakeK0, wMake0, sSeq, sNext, sNever, sRet, sRetN, sRetO, sIf, sAsg, sAsgO, sPar, sParO, sPar3, sParO3, sAsgG, gTupD, setAll, sAug, sApp, sFldI, tyAnd, tyOr, tyNot, iRg1, iRg2, iLst, iTupW, sFor, dAdd, dSub, dMul, dMulT, dDiv, dMod, dPow, dNeg, dLt, dLe, dGt, dGe, dIsN, isNon, dNotN, dEq, dNe, dIx, dLen, dInt, dAbs, dMax2, dMin2, lLen, lTup, isA, envOf, envI, putD, gVar, wRev, wRevT, wIxL, wSl, wSlO, wNoP, wPart, wBag, okD_int, okD_bl, okD_non, eqD_int, eqD_bl, wipeE]
      exact h
    · intro i _ _ Q h
      simp [wVar, wC, w2, w1, wNil, wCons, wTup, wLstO, wFz, wLk, wOwn, wAnd, wOr, wNot, wB, wYes, wIf, wFldC, wCB, wCBL, wCall0, wMeth0, wMethN0, wMakeK0, wMake0, sSeq, sNext, sNever, sRet, sRetN, sRetO, sIf, sAsg, sAsgO, sPar, sParO, sPar3, sParO3, sAsgG, gTupD, setAll, sAug, sApp, sFldI, tyAnd, tyOr, tyNot, iRg1, iRg2, iLst, iTupW, sFor, dAdd, dSub, dMul, dMulT, dDiv, dMod, dPow, dNeg, dLt, dLe, dGt, dGe, dIsN, isNon, dNotN, dEq, dNe, dIx, dLen, dInt, dAbs, dMax2, dMin2, lLen, lTup, isA, envOf, envI, putD, gVar, wRev, wRevT, wIxL, wSl, wSlO, wNoP, wPart, wBag, okD_int, okD_bl, okD_non, eqD_int, eqD_bl, wipeE]
      exact h
    · rw [unL_len, show sizeLine = 16777216 from rfl]
      decide
    · rw [List.nil_append, filter_units hk hl 198 (by omega), ← List.map_reverse]
      refine loop_ldigits A hk j [] m .un .un h0 hl.2 (by show 0 + j ≤ 1000; omega) fun r' c1 c2 => ?_
      simp [wVar, wC, w2, w1, wNil, wCons, wTup, wLstO, wFz, wLk, wOwn, wAnd, wOr, wNot, wB, wYes, wIf, wFldC, wCB, wCBL, wCall0, wMeth0, wMethN0, wMakeK0, wMake0, sSeq, sNext, sNever, sRet, sRetN, sRetO, sIf, sAsg, sAsgO, sPar, sParO, sPar3, sParO3, sAsgG, gTupD, setAll, sAug, sApp, sFldI, tyAnd, tyOr, tyNot, iRg1, iRg2, iLst, iTupW, sFor, dAdd, dSub, dMul, dMulT, dDiv, dMod, dPow, dNeg, dLt, dLe, dGt, dGe, dIsN, isNon, dNotN, dEq, dNe, dIx, dLen, dInt, dAbs, dMax2, dMin2, lLen, lTup, isA, envOf, envI, putD, gVar, wRev, wRevT, wIxL, wSl, wSlO, wNoP, wPart, wBag, okD_int, okD_bl, okD_non, eqD_int, eqD_bl, wipeE]
      exact hq
  · exact h.elim
theorem loop_great (A : Ad) {b : PySem.Addr} {y z : SV} {n : DN} : ∀ (t i : Nat) (f : Int) (c : SV), i + t ≤ 40 → 0 ≤ f → f < 10 ^ i → (∀ f c, 0 ≤ f → f < 10 ^ 40 → n.nx [.d (.bag b), y, z, .d (.int f), c]) →
    sLoop (lb_law_great_1 A) (gVar 4) n ((List.range' i t).map fun (y : Nat) => D.int (0 + y)) [.d (.bag b), y, z, .d (.int f), c]
  | 0, i, f, c, e, h0, h1, h => by
    refine h f c h0 (Int.lt_of_lt_of_le h1 ?_)
    have := Nat.pow_le_pow_right (n := 10) (by decide) (show i ≤ 40 by omega)
    exact_mod_cast this
  | t + 1, i, f, c, e, h0, h1, h => by
    rw [List.range'_succ, List.map_cons, sLoop]
    simp [lb_law_great_1, wVar, wC, w2, w1, wNil, wCons, wTup, wLstO, wFz, wLk, wOwn, wAnd, wOr, wNot, wB, wYes, wIf, wFldC, wCB, wCBL, wCall0, wMeth0, wMethN0, wMakeK0, wMake0, sSeq, sNext, sNever, sRet, sRetN, sRetO, sIf, sAsg, sAsgO, sPar, sParO, sPar3, sParO3, sAsgG, gTupD, setAll, sAug, sApp, sFldI, tyAnd, tyOr, tyNot, iRg1, iRg2, iLst, iTupW, sFor, dAdd, dSub, dMul, dMulT, dDiv, dMod, dPow, dNeg, dLt, dLe, dGt, dGe, dIsN, isNon, dNotN, dEq, dNe, dIx, dLen, dInt, dAbs, dMax2, dMin2, lLen, lTup, isA, envOf, envI, putD, gVar, wRev, wRevT, wIxL, wSl, wSlO, wNoP, wPart, wBag, okD_int, okD_bl, okD_non, eqD_int, eqD_bl, wipeE, S_law_draw, sDraw]
    refine ⟨.inl (.inr (by decide)), fun r hr0 hr1 => ?_⟩
    have ih := loop_great A (b := b) (y := y) (z := z) (n := n) t (i + 1) (f * 10 + r) (.d (.int (0 + i))) (by omega) (by omega) (by rw [Int.pow_succ]; omega) h
    simp at ih
    exact ih
theorem hw_law_great (A : Ad) : ∀ ds er q, ds.length = 2 → S_law_great A ds er q → w_law_great A { nx := fun _ => q .non, rt := q, er := er } (envOf 5 ds) := by
  intro ds er q hlen h
  unfold S_law_great at h
  split at h
  · rename_i b k
    obtain ⟨hk, hq⟩ := h
    simp [w_law_great, wVar, wC, w2, w1, wNil, wCons, wTup, wLstO, wFz, wLk, wOwn, wAnd, wOr, wNot, wB, wYes, wIf, wFldC, wCB, wCBL, wCall0, wMeth0, wMethN0, wMakeK0, wMake0, sSeq, sNext, sNever, sRet, sRetN, sRetO, sIf, sAsg, sAsgO, sPar, sParO, sPar3, sParO3, sAsgG, gTupD, setAll, sAug, sApp, sFldI, tyAnd, tyOr, tyNot, iRg1, iRg2, iLst, iTupW, sFor, dAdd, dSub, dMul, dMulT, dDiv, dMod, dPow, dNeg, dLt, dLe, dGt, dGe, dIsN, isNon, dNotN, dEq, dNe, dIx, dLen, dInt, dAbs, dMax2, dMin2, lLen, lTup, isA, envOf, envI, putD, gVar, wRev, wRevT, wIxL, wSl, wSlO, wNoP, wPart, wBag, okD_int, okD_bl, okD_non, eqD_int, eqD_bl, wipeE, S_law_units, S_law_draw, sDraw]
    intro r h1 h2
    refine ⟨fun h3 r h4 h5 => hq r h4 (by omega), fun h3 => ⟨fun h3 r h4 h5 => ⟨hk, by omega, by omega, ?_⟩, fun h3 r2 h4 h5 => ⟨by omega, by omega, ?_⟩⟩⟩
    · obtain ⟨r, rfl⟩ := Int.eq_ofNat_of_zero_le h4
      have e : (4 + (r : Int)).toNat = (r + 3) + 1 := by omega
      have e2 : atD ((unL k (4 + (r : Int)).toNat).map D.int) (-1) = some (.int (un k (r + 3))) := by
        rw [e, unL_s, List.map_append]
        exact atD_last
      rw [e2]
      intro r3 h6 h7
      have g1 := un_mono hk (show 1 ≤ r + 3 by omega)
      have g2 := un_mono hk (show r + 3 ≤ 62 by omega)
      have g3 := un_4 hk 62
      have g4 : (4 : Int) ^ 62 + 10 ≤ 10 ^ 40 := by decide
      rw [un_1] at g1
      have := hk.1
      exact hq _ (by omega) (by omega)
    · rw [rngD_eq]
      refine loop_great A _ 0 0 .un (by omega) (by decide) (by decide) fun f c h6 h7 => ?_
      simp [wVar, wC, w2, w1, wNil, wCons, wTup, wLstO, wFz, wLk, wOwn, wAnd, wOr, wNot, wB, wYes, wIf, wFldC, wCB, wCBL, wCall0, wMeth0, wMethN0, wMakeK0, wMake0, sSeq, sNext, sNever, sRet, sRetN, sRetO, sIf, sAsg, sAsgO, sPar, sParO, sPar3, sParO3, sAsgG, gTupD, setAll, sAug, sApp, sFldI, tyAnd, tyOr, tyNot, iRg1, iRg2, iLst, iTupW, sFor, dAdd, dSub, dMul, dMulT, dDiv, dMod, dPow, dNeg, dLt, dLe, dGt, dGe, dIsN, isNon, dNotN, dEq, dNe, dIx, dLen, dInt, dAbs, dMax2, dMin2, lLen, lTup, isA, envOf, envI, putD, gVar, wRev, wRevT, wIxL, wSl, wSlO, wNoP, wPart, wBag, okD_int, okD_bl, okD_non, eqD_int, eqD_bl, wipeE]
      exact hq f h6 (Int.le_of_lt h7)
  · exact h.elim
theorem okL_2 {l : List (List Int)} : okL 2 (.lst (l.map fun x => .tup (x.map .int))) := okL_lst fun x hx => by
  obtain ⟨y, _, rfl⟩ := List.mem_map.mp hx
  exact okL_ints y
theorem right_1 (A : Ad) {b : PySem.Addr} {k : Int} {m due t h x7 x8 x9 x10 x11 : SV} {n : DN} (hk : K3 k) (hn : ∀ due h, n.nx [.d (.bag b), .d (.int k), .d (sysD A k), m, due, t, h, x7, x8, x9, x10, x11]) :
    lb_law_right_1 A n [.d (.bag b), .d (.int k), .d (sysD A k), m, due, t, h, x7, x8, x9, x10, x11] := by
  simp [lb_law_right_1, wVar, wC, w2, w1, wNil, wCons, wTup, wLstO, wFz, wLk, wOwn, wAnd, wOr, wNot, wB, wYes, wIf, wFldC, wCB, wCBL, wCall0, wMeth0, wMethN0, wMakeK0, wMake0, sSeq, sNext, sNever, sRet, sRetN, sRetO, sIf, sAsg, sAsgO, sPar, sParO, sPar3, sParO3, sAsgG, gTupD, setAll, sAug, sApp, sFldI, tyAnd, tyOr, tyNot, iRg1, iRg2, iLst, iTupW, sFor, dAdd, dSub, dMul, dMulT, dDiv, dMod, dPow, dNeg, dLt, dLe, dGt, dGe, dIsN, isNon, dNotN, dEq, dNe, dIx, dLen, dInt, dAbs, dMax2, dMin2, lLen, lTup, isA, envOf, envI, putD, gVar, wRev, wRevT, wIxL, wSl, wSlO, wNoP, wPart, wBag, okD_int, okD_bl, okD_non, eqD_int, eqD_bl, wipeE, sysD, S_law_great]
  refine ⟨hk, fun i h0 hi => ?_⟩
  obtain ⟨j, hj, hl⟩ := lim_ex 197 (show i < un k 197 by have := un_big hk; omega)
  refine ⟨hk, h0, by omega, j, hl, hj, ?_⟩
  simp [S_System_digits, isSys, S_System_init, pmA, perm]
  have o3 : okL 2 (.lst [.tup ((dg k i j).map .int), .tup ((dg k i j).map .int), .tup ((dg k i j).map .int)]) := okL_2 (l := [dg k i j, dg k i j, dg k i j])
  refine ⟨by decide, hk, h0, hi, j, hl, by omega, by decide, hk, h0, hi, j, hl, by omega, hk, by decide, hk, h0, hi, j, hl, by omega, by decide, by decide, by decide, okD_of o3 (by decide), okD_of o3 (by decide), fun z => absurd z (by rw [eqD_refl o3]; decide), fun _ => ?_⟩
  have hd := dg_in hk j i h0 hl.2
  have ha := adj_dg hk j i h0 hl.2
  have hv := nv_dg hk j i h0 hl.2
  have hlen := dg_len k j i
  have okn : okL 1 (.lst [.int i, .int i]) := okL_intl [i, i]
  refine ⟨by decide, ?_⟩
  simp only [S_System_number, isSys, isInts]
  refine ⟨trivial, k, rfl, dg k i j, rfl, hk, by omega, isDg_of hd ha, ?_⟩
  rw [hv]
  refine ⟨by decide, by decide, ?_⟩
  simp only [S_law_draw, sDraw]
  refine ⟨by decide, by decide, fun r hr0 hr1 => ?_⟩
  refine ⟨⟨by decide, hr0, by omega, by decide⟩, ?_⟩
  have ez : (List.replicate r.toNat [D.int 0]).flatten ++ (dg k i j).map D.int = (List.replicate r.toNat (0 : Int) ++ dg k i j).map D.int := by
    rw [List.map_append, List.map_replicate]
    congr 1
    generalize r.toNat = z
    induction z with
    | zero => rfl
    | succ z ih => rw [List.replicate_succ, List.flatten_cons, ih, List.replicate_succ]; rfl
  refine ⟨?_, ?_⟩
  · rw [← List.length_append, ez, List.length_map, List.length_append, List.length_replicate, hlen, show sizeLine = 16777216 from rfl]
    omega
  rw [ez]
  have hz : ∀ d ∈ List.replicate r.toNat (0 : Int) ++ dg k i j, 0 ≤ d ∧ d ≤ k := fun d hx => by
    rcases List.mem_append.mp hx with hx | hx
    · rw [(List.mem_replicate.mp hx).2]
      have := hk.1
      omega
    · exact hd d hx
  refine ⟨trivial, k, rfl, _, rfl, hk, ?_, isDg_of hz (adj_zeros hk ha _), ?_⟩
  · rw [List.length_append, List.length_replicate, hlen]
    omega
  have e2 : nv k 0 1 1 (List.replicate r.toNat (0 : Int) ++ dg k i j).reverse = i := by
    rw [List.reverse_append, List.reverse_replicate, nv_zeros, hv]
  rw [e2]
  refine ⟨by decide, okD_of okn (by decide), okD_of okn (by decide), fun z => absurd z (by rw [eqD_refl okn]; decide), fun _ => ?_⟩
  refine ⟨by decide, ?_⟩
  simp only [S_System_is_digits, isSys, isInts]
  refine ⟨trivial, k, rfl, dg k i j, rfl, hk, by omega, ?_⟩
  rw [isDg_of hd ha]
  have hd2 : ∀ d ∈ (0 : Int) :: dg k i j, 0 ≤ d ∧ d ≤ k := fun d hx => by
    rcases List.mem_cons.mp hx with rfl | hx
    · have := hk.1
      omega
    · exact hd d hx
  refine ⟨(fun z => nomatch z), fun _ => ⟨by decide, by decide, ?_, trivial, k, rfl, 0 :: dg k i j, rfl, hk, ?_, ?_⟩⟩
  · rw [hlen, show sizeLine = 16777216 from rfl]
    omega
  · rw [List.length_cons, hlen]
    omega
  · rw [isDg_of hd2 (adj_0 hk ha)]
    exact ⟨(fun z => nomatch z), fun _ => hn _ _⟩
theorem loop_right1 (A : Ad) {b : PySem.Addr} {k : Int} {m x7 x8 x9 x10 x11 : SV} {n : DN} (hk : K3 k) (hn : ∀ due t h, n.nx [.d (.bag b), .d (.int k), .d (sysD A k), m, due, t, h, x7, x8, x9, x10, x11]) : ∀ (l : List D) (due t h : SV),
    sLoop (lb_law_right_1 A) (gVar 5) n l [.d (.bag b), .d (.int k), .d (sysD A k), m, due, t, h, x7, x8, x9, x10, x11]
  | [], due, t, h => hn due t h
  | x :: l, due, t, h => right_1 A (n := { n with nx := sLoop (lb_law_right_1 A) (gVar 5) n l, ct := sLoop (lb_law_right_1 A) (gVar 5) n l, bk := n.nx }) hk fun due h => loop_right1 A hk hn l due (.d x) h
theorem right_2 (A : Ad) {b : PySem.Addr} {k : Int} {c2 c3 c4 c5 c6 x7 x8 x9 x10 x11 : SV} {n : DN} (hk : K3 k) (hn : ∀ c2 c3 c4 c5 c6, n.nx [.d (.bag b), .d (.int k), c2, c3, c4, c5, c6, x7, x8, x9, x10, x11]) :
    lb_law_right_2 A n [.d (.bag b), .d (.int k), c2, c3, c4, c5, c6, x7, x8, x9, x10, x11] := by
  simp [lb_law_right_2, wVar, wC, w2, w1, wNil, wCons, wTup, wLstO, wFz, wLk, wOwn, wAnd, wOr, wNot, wB, wYes, wIf, wFldC, wCB, wCBL, wCall0, wMeth0, wMethN0, wMakeK0, wMake0, sSeq, sNext, sNever, sRet, sRetN, sRetO, sIf, sAsg, sAsgO, sPar, sParO, sPar3, sParO3, sAsgG, gTupD, setAll, sAug, sApp, sFldI, tyAnd, tyOr, tyNot, iRg1, iRg2, iLst, iTupW, sFor, dAdd, dSub, dMul, dMulT, dDiv, dMod, dPow, dNeg, dLt, dLe, dGt, dGe, dIsN, isNon, dNotN, dEq, dNe, dIx, dLen, dInt, dAbs, dMax2, dMin2, lLen, lTup, isA, envOf, envI, putD, gVar, wRev, wRevT, wIxL, wSl, wSlO, wNoP, wPart, wBag, okD_int, okD_bl, okD_non, eqD_int, eqD_bl, wipeE, S_System_init, S_law_draw, sDraw, S_law_units, S_System_units, isSys, pmA, perm, step_look]
  refine ⟨hk, fun r h0 h1 => ?_⟩
  have o2 : okL 2 (.lst [.tup ((unL k r.toNat).map .int), .tup ((unL k r.toNat).map .int)]) := okL_2 (l := [unL k r.toNat, unL k r.toNat])
  refine ⟨hk, h0, by omega, by decide, hk, h0, by omega, by decide, hk, h0, by omega, by decide, okD_of o2 (by decide), fun z => absurd z (by rw [eqD_refl o2]; decide), fun _ => ?_⟩
  exact loop_right1 A hk (fun _ _ _ => hn _ _ _ _ _) _ _ _ _
theorem loop_right2 (A : Ad) {b : PySem.Addr} {x7 x8 x9 x10 x11 : SV} {n : DN} (hn : ∀ c1 c2 c3 c4 c5 c6, n.nx [.d (.bag b), c1, c2, c3, c4, c5, c6, x7, x8, x9, x10, x11]) : ∀ (l : List Int) (c1 c2 c3 c4 c5 c6 : SV), (∀ k ∈ l, K3 k) →
    sLoop (lb_law_right_2 A) (gVar 1) n (l.map .int) [.d (.bag b), c1, c2, c3, c4, c5, c6, x7, x8, x9, x10, x11]
  | [], c1, c2, c3, c4, c5, c6, _ => hn c1 c2 c3 c4 c5 c6
  | k :: l, c1, c2, c3, c4, c5, c6, h => right_2 A (n := { n with nx := sLoop (lb_law_right_2 A) (gVar 1) n (l.map .int), ct := sLoop (lb_law_right_2 A) (gVar 1) n (l.map .int), bk := n.nx }) (h k (by simp)) fun c2 c3 c4 c5 c6 => loop_right2 A hn l _ c2 c3 c4 c5 c6 fun k hk => h k (by simp [hk])
def mates (A : Ad) : List D := [sysD A 1, sysD A 2, sysD A 3]
theorem eqO_sys (A : Ad) (k j : Int) {q : D → Prop} (h : q (.bl (k == j))) : eqO (cd A) A.c_System (S_System_eq A) (sysD A k) (sysD A j) q := by
  refine ⟨rfl, .inr ⟨_, rfl, ?_⟩, rfl, k, rfl, rfl, j, rfl, h⟩
  simp [cd, cdOf]
theorem neO_sys (A : Ad) (k j : Int) {q : D → Prop} (h : q (.bl (!(k == j)))) : neO (cd A) A.c_System (S_System_eq A) (sysD A k) (sysD A j) q := by
  refine ⟨rfl, .inr ⟨_, rfl, ?_⟩, rfl, k, rfl, rfl, j, rfl, h⟩
  simp [cd, cdOf]
theorem neO_int (A : Ad) (k j : Int) {q : D → Prop} (h : q (.bl true)) : neO (cd A) A.c_System (S_System_eq A) (sysD A k) (.int j) q := by
  have e : isO (cd A) (.int j) A.c_System = some false := by simp [isO, cd, cdOf]
  exact ⟨rfl, .inl e, rfl, k, rfl, e, h⟩
def bls : List D := [.lst [.bl true, .bl false, .bl false], .lst [.bl false, .bl true, .bl false], .lst [.bl false, .bl false, .bl true]]
theorem bls_ok : okL 2 (.lst bls) := okL_lst fun x hx => by
  have h : ∀ (l : List Bool), okL 1 (.lst (l.map .bl)) := fun l => okL_lst fun y hy => by
    obtain ⟨b, _, rfl⟩ := List.mem_map.mp hy
    exact okL_bl b
  unfold bls at hx
  simp only [List.mem_cons, List.not_mem_nil, or_false] at hx
  rcases hx with rfl | rfl | rfl
  · exact h [true, false, false]
  · exact h [false, true, false]
  · exact h [false, false, true]
theorem hw_law_right (A : Ad) : ∀ ds er q, ds.length = 1 → S_law_right A ds er q → w_law_right A { nx := fun _ => q .non, rt := q, er := er } (envOf 12 ds) := by
  intro ds er q hlen h
  unfold S_law_right at h
  split at h
  · rename_i b
    simp [w_law_right, sSeq, sFor, iRg2, wCons, wNil, wC, envOf]
    refine loop_right2 A (fun c1 c2 c3 c4 c5 c6 => ?_) [1, 2, 3] .un .un .un .un .un .un (fun k hk => ?_)
    · refine ⟨rfl, ⟨by decide, by decide⟩, rfl, ⟨by decide, by decide⟩, rfl, ⟨by decide, by decide⟩, (show (3 : Nat) ≤ sizeLine by decide), ?_⟩
      simp only [sSeq, sIf, wB, w2, wFz, wLc, iLst, wVar, List.set_cons_succ, List.set_cons_zero, List.getElem?_cons_succ, List.getElem?_cons_zero, wipeE]
      refine DL.comp_map (c := sysD A) (l := [1, 2, 3]) (ev := fun k => [.d (.bag b), c1, c2, c3, c4, c5, c6, .d (.lst (mates A)), .un, .d (sysD A k), .un, .un]) (f := fun k => .lst ([1, 2, 3].map fun (j : Int) => .bl (k == j))) (fun _ _ _ h => h) (fun k _ Q h => ?_) (by decide) ?_
      · simp only [wFz, wLc, iLst, wVar, wipeE, List.set_cons_succ, List.set_cons_zero, List.getElem?_cons_succ, List.getElem?_cons_zero]
        refine DL.comp_map (c := sysD A) (l := [1, 2, 3]) (ev := fun j => [.d (.bag b), c1, c2, c3, c4, c5, c6, .d (.lst (mates A)), .d (sysD A j), .d (sysD A k), .un, .un]) (f := fun (j : Int) => .bl (k == j)) (fun _ _ _ h => h) (fun j _ Q h => ?_) (by decide) h
        exact eqO_sys A k j h
      refine ⟨by decide, by decide, ?_⟩
      refine DL.comp_map (c := fun (i : Nat) => D.int (0 + i)) (l := List.range 3) (ev := fun i => [.d (.bag b), c1, c2, c3, c4, c5, c6, .d (.lst (mates A)), .un, .un, .un, .d (.int (0 + (i : Nat)))]) (f := fun (i : Nat) => .lst ((List.range 3).map fun (j : Nat) => .bl (eqD (.int (0 + i)) (.int (0 + j))))) (fun _ _ _ h => h) (fun i _ Q h => ?_) (by decide) ?_
      · refine ⟨by decide, by decide, ?_⟩
        refine DL.comp_map (c := fun (i : Nat) => D.int (0 + i)) (l := List.range 3) (ev := fun j => [.d (.bag b), c1, c2, c3, c4, c5, c6, .d (.lst (mates A)), .un, .un, .d (.int (0 + (j : Nat))), .d (.int (0 + (i : Nat)))]) (f := fun (j : Nat) => .bl (eqD (.int (0 + i)) (.int (0 + j)))) (fun _ _ _ h => h) (fun j _ Q h => ?_) (by decide) h
        exact ⟨okD_int _, okD_int _, h⟩
      refine ne_same (d := .lst bls) bls_ok (by decide) ?_
      refine ⟨fun z => (nomatch z), fun _ => ?_⟩
      simp only [sNext, sRet, wAnd, w2, wNot, wVar, wC, dIx, List.getElem?_cons_succ, List.getElem?_cons_zero, atD_0, atD_1, atD_2, wMake0, wCons, wNil, S_System_init, List.append_nil]
      refine neO_sys A 1 2 ?_
      refine ⟨rfl, ⟨by decide, by decide⟩, ?_⟩
      refine neO_sys A 3 3 ?_
      exact neO_int A 1 1 h
    · simp at hk
      unfold K3
      omega
  · exact h.elim
theorem hw_law (A : Ad) : ∀ ds er q, ds.length = 1 → S_law A ds er q → w_law A { nx := fun _ => q .non, rt := q, er := er } (envOf 5 ds) := by
  intro ds er q hlen h
  obtain ⟨ns, rfl, hl, hq⟩ := h
  simp [w_law, wVar, wC, w2, w1, wNil, wCons, wTup, wLstO, wFz, wLk, wOwn, wAnd, wOr, wNot, wB, wYes, wIf, wFldC, wCB, wCBL, wCall0, wMeth0, wMethN0, wMakeK0, wMake0, sSeq, sNext, sNever, sRet, sRetN, sRetO, sIf, sAsg, sAsgO, sPar, sParO, sPar3, sParO3, sAsgG, gTupD, setAll, sAug, sApp, sFldI, tyAnd, tyOr, tyNot, iRg1, iRg2, iLst, iTupW, sFor, dAdd, dSub, dMul, dMulT, dDiv, dMod, dPow, dNeg, dLt, dLe, dGt, dGe, dIsN, isNon, dNotN, dEq, dNe, dIx, dLen, dInt, dAbs, dMax2, dMin2, lLen, lTup, isA, envOf, envI, putD, gVar, wRev, wRevT, wIxL, wSl, wSlO, wNoP, wPart, wBag, okD_int, okD_bl, okD_non, eqD_int, eqD_bl, wipeE, S_System_init, S_System_digits, S_System_units, isSys, wLc, S_law_right, S_law_bag]
  have o1 : okL 2 (.lst [.tup [], .tup [.int 1, .int 0, .int 1], .tup [.int 2, .int 0], .tup [.int 1, .int 1, .int 2]]) := okL_2 (l := [[], [1, 0, 1], [2, 0], [1, 1, 2]])
  have o2 : okL 2 (.lst [.tup [.int 1, .int 2, .int 3, .int 5, .int 8, .int 13], .tup [.int 1, .int 3, .int 7, .int 17], .tup [.int 1, .int 4, .int 13, .int 43]]) := okL_2 (l := [[1, 2, 3, 5, 8, 13], [1, 3, 7, 17], [1, 4, 13, 43]])
  have k1 : K3 1 := ⟨by decide, by decide⟩
  have k2 : K3 2 := ⟨by decide, by decide⟩
  have k3 : K3 3 := ⟨by decide, by decide⟩
  refine ⟨k1, k2, k3, by decide, k1, 0, ⟨by decide, by decide⟩, by decide, by decide, k1, 3, ⟨by decide, by decide⟩, by decide, by decide, k2, 2, ⟨by decide, by decide⟩, by decide, by decide, k3, 3, ⟨by decide, by decide⟩, by decide, by decide, by decide, by decide, by decide, by decide, ?_⟩
  rw [show dg 1 0 0 = [] from rfl, show dg 1 4 3 = [1, 0, 1] by decide, show dg 2 6 2 = [2, 0] by decide, show dg 3 19 3 = [1, 1, 2] by decide, show unL 1 6 = [1, 2, 3, 5, 8, 13] by decide, show unL 2 4 = [1, 3, 7, 17] by decide, show unL 3 4 = [1, 4, 13, 43] by decide]
  refine ⟨okD_of o1 (by decide), okD_of o1 (by decide), fun z => absurd (z.symm.trans (eqD_refl o1)) (by decide), fun _ => ?_⟩
  refine ⟨by decide, k1, by decide, k2, by decide, k3, by decide, by decide, by decide, by decide, okD_of o2 (by decide), okD_of o2 (by decide), fun z => absurd (z.symm.trans (eqD_refl o2)) (by decide), fun _ => ?_⟩
  generalize hN : (if 2 < if 6 < (ns.length : Int) then 6 else (ns.length : Int) then if 6 < (ns.length : Int) then 6 else (ns.length : Int) else 2) = N
  have hN2 : 0 ≤ N ∧ N ≤ 6 := by
    rw [← hN]
    split <;> split <;> omega
  refine ⟨by omega, by omega, ?_⟩
  unfold rngD
  refine DL.comp_map (c := fun (i : Nat) => D.int (0 + i)) (l := List.range N.toNat) (ev := fun i => [.d (.scr ns), .d (sysD A 1), .d (sysD A 2), .d (sysD A 3), .d (.int (0 + (i : Nat)))]) (f := fun _ => .bl true) (fun _ _ _ h => h) (fun i _ Q h => ?_) ?_ ?_
  · simp [wVar, wC, w2, w1, wNil, wCons, wTup, wLstO, wFz, wLk, wOwn, wAnd, wOr, wNot, wB, wYes, wIf, wFldC, wCB, wCBL, wCall0, wMeth0, wMethN0, wMakeK0, wMake0, sSeq, sNext, sNever, sRet, sRetN, sRetO, sIf, sAsg, sAsgO, sPar, sParO, sPar3, sParO3, sAsgG, gTupD, setAll, sAug, sApp, sFldI, tyAnd, tyOr, tyNot, iRg1, iRg2, iLst, iTupW, sFor, dAdd, dSub, dMul, dMulT, dDiv, dMod, dPow, dNeg, dLt, dLe, dGt, dGe, dIsN, isNon, dNotN, dEq, dNe, dIx, dLen, dInt, dAbs, dMax2, dMin2, lLen, lTup, isA, envOf, envI, putD, gVar, wRev, wRevT, wIxL, wSl, wSlO, wNoP, wPart, wBag, okD_int, okD_bl, okD_non, eqD_int, eqD_bl, wipeE, S_law_right, S_law_bag]
    exact h
  · rw [List.length_range, show sizeLine = 16777216 from rfl]
    omega
  · refine all_map (fun _ => true) _ _ ?_
    rw [all_yes]
    exact hq
end Lw
namespace Lw
open PySem L2 DL
open PySem.Spec PyProof.Rows
structure Fa where
  a_is_integer : PySem.Addr
  d_is_integer : PySem.FuncData
  a_is_number : PySem.Addr
  d_is_number : PySem.FuncData
  a_System_init : PySem.Addr
  d_System_init : PySem.FuncData
  a_units_up_to : PySem.Addr
  d_units_up_to : PySem.FuncData
  a_digits_of : PySem.Addr
  d_digits_of : PySem.FuncData
  a_System_digits : PySem.Addr
  d_System_digits : PySem.FuncData
  a_System_units : PySem.Addr
  d_System_units : PySem.FuncData
  a_System_eq : PySem.Addr
  d_System_eq : PySem.FuncData
  a_law_draw : PySem.Addr
  d_law_draw : PySem.FuncData
  a_law_units : PySem.Addr
  d_law_units : PySem.FuncData
  a_law_great : PySem.Addr
  d_law_great : PySem.FuncData
  a_law_digits : PySem.Addr
  d_law_digits : PySem.FuncData
  a_number_of : PySem.Addr
  d_number_of : PySem.FuncData
  a_System_is_digits : PySem.Addr
  d_System_is_digits : PySem.FuncData
  a_System_number : PySem.Addr
  d_System_number : PySem.FuncData
  a_law_right : PySem.Addr
  d_law_right : PySem.FuncData
  a_law_bag : PySem.Addr
  d_law_bag : PySem.FuncData
  a_law : PySem.Addr
  d_law : PySem.FuncData
structure Txt (K : PySem.W.Frag) (mg : PySem.Str → Option PySem.Value) (A : Ad) (F : Fa) : Prop where
  F_is_integer : Fun K "is_integer" "is_integer" s_is_integer F.a_is_integer F.d_is_integer
  b_is_integer : Binds K F.d_is_integer ["value"] []
  g_is_integer : mg "is_integer" = some (.ref F.a_is_integer)
  F_is_number : FunD K "is_number" "is_number" (defArgs s_is_number) (defBody s_is_number) (defScope s_is_number) [.non] [] F.a_is_number F.d_is_number
  b_is_number : Binds K F.d_is_number ["value", "most"] []
  g_is_number : mg "is_number" = some (.ref F.a_is_number)
  F_System_init : Fun K "__init__" "System.__init__" s_System_init F.a_System_init F.d_System_init
  b_System_init : Binds K F.d_System_init ["self", "step"] []
  mk_System : Mk K A.c_System F.a_System_init
  F_units_up_to : Fun K "units_up_to" "units_up_to" s_units_up_to F.a_units_up_to F.d_units_up_to
  b_units_up_to : Binds K F.d_units_up_to ["step", "number"] []
  g_units_up_to : mg "units_up_to" = some (.ref F.a_units_up_to)
  F_digits_of : Fun K "digits_of" "digits_of" s_digits_of F.a_digits_of F.d_digits_of
  b_digits_of : Binds K F.d_digits_of ["step", "number"] []
  g_digits_of : mg "digits_of" = some (.ref F.a_digits_of)
  F_System_digits : Fun K "digits" "System.digits" s_System_digits F.a_System_digits F.d_System_digits
  b_System_digits : Binds K F.d_System_digits ["self", "number"] []
  me_System_digits : Meth K A.c_System "digits" F.a_System_digits
  F_System_units : Fun K "units" "System.units" s_System_units F.a_System_units F.d_System_units
  b_System_units : Binds K F.d_System_units ["self", "count"] []
  me_System_units : Meth K A.c_System "units" F.a_System_units
  F_System_eq : Fun K "__eq__" "System.__eq__" s_System_eq F.a_System_eq F.d_System_eq
  b_System_eq : Binds K F.d_System_eq ["self", "other"] []
  me_System_eq : Meth K A.c_System "__eq__" F.a_System_eq
  F_law_draw : Fun K "_law_draw" "_law_draw" s_law_draw F.a_law_draw F.d_law_draw
  b_law_draw : Binds K F.d_law_draw ["_law_bag_here", "_law_wide"] []
  g_law_draw : mg "_law_draw" = some (.ref F.a_law_draw)
  F_law_units : Fun K "_law_units" "_law_units" s_law_units F.a_law_units F.d_law_units
  b_law_units : Binds K F.d_law_units ["_law_level", "_law_many"] []
  g_law_units : mg "_law_units" = some (.ref F.a_law_units)
  F_law_great : Fun K "_law_great" "_law_great" s_law_great F.a_law_great F.d_law_great
  b_law_great : Binds K F.d_law_great ["_law_bag_here", "_law_level"] []
  g_law_great : mg "_law_great" = some (.ref F.a_law_great)
  F_law_digits : Fun K "_law_digits" "_law_digits" s_law_digits F.a_law_digits F.d_law_digits
  b_law_digits : Binds K F.d_law_digits ["_law_level", "_law_amount"] []
  g_law_digits : mg "_law_digits" = some (.ref F.a_law_digits)
  F_number_of : Fun K "number_of" "number_of" s_number_of F.a_number_of F.d_number_of
  b_number_of : Binds K F.d_number_of ["step", "digits"] []
  g_number_of : mg "number_of" = some (.ref F.a_number_of)
  F_System_is_digits : Fun K "is_digits" "System.is_digits" s_System_is_digits F.a_System_is_digits F.d_System_is_digits
  b_System_is_digits : Binds K F.d_System_is_digits ["self", "value"] []
  me_System_is_digits : Meth K A.c_System "is_digits" F.a_System_is_digits
  F_System_number : Fun K "number" "System.number" s_System_number F.a_System_number F.d_System_number
  b_System_number : Binds K F.d_System_number ["self", "digits"] []
  me_System_number : Meth K A.c_System "number" F.a_System_number
  F_law_right : Fun K "_law_right" "_law_right" s_law_right F.a_law_right F.d_law_right
  b_law_right : Binds K F.d_law_right ["_law_bag_here"] []
  g_law_right : mg "_law_right" = some (.ref F.a_law_right)
  F_law_bag : Fun K "_law_bag" "_law_bag" s_law_bag F.a_law_bag F.d_law_bag
  b_law_bag : Binds K F.d_law_bag ["_law_cells", "_law_k"] []
  g_law_bag : mg "_law_bag" = some (.ref F.a_law_bag)
  F_law : Fun K "law" "law" s_law F.a_law F.d_law
  b_law : Binds K F.d_law ["_law_cells"] []
  g_law : mg "law" = some (.ref F.a_law)
  kb_System_units_1_count : KBn K F.d_System_units ["self", "count"] 1 ["count"] (pmA [0]) (pmA [0])
  kb_System_digits_1_number : KBn K F.d_System_digits ["self", "number"] 1 ["number"] (pmA [0]) (pmA [0])
  kb_System_init_1_step : KBn K F.d_System_init ["self", "step"] 1 ["step"] (pmA [0]) (pmA [0])
  kb_System_number_1_digits : KBn K F.d_System_number ["self", "digits"] 1 ["digits"] (pmA [0]) (pmA [0])
  kb_System_is_digits_1_value : KBn K F.d_System_is_digits ["self", "value"] 1 ["value"] (pmA [0]) (pmA [0])
  cl_System : Cls K A.c_System
  m_System : mg "System" = some (.ref A.c_System)
  ne_System : PySem.W.findIn K (.ref A.c_System) "__ne__" = some (some (.builtin "object.__ne__"))
  na_System_step : NoAttr K A.c_System "step"
  z_abs : mg "abs" = none
  z_all : mg "all" = none
  z_bool : mg "bool" = none
  z_int : mg "int" = none
  z_isinstance : mg "isinstance" = none
  z_len : mg "len" = none
  z_max : mg "max" = none
  z_min : mg "min" = none
  z_range : mg "range" = none
  z_tuple : mg "tuple" = none
  v_MOST_NUMBER : ∃ u, mg "MOST_NUMBER" = some u ∧ RelV (.int 10000000000000000000000000000000000000000) u
  v_MOST_STEP : ∃ u, mg "MOST_STEP" = some u ∧ RelV (.int 3) u
  v_MOST_UNITS : ∃ u, mg "MOST_UNITS" = some u ∧ RelV (.int 200) u
  ty : TyOk K (cd A)
section
variable {P : Program} {w : World} {K : PySem.W.Frag} {mg : Str → Option Value} {base : Heap} {A : Ad} {F : Fa}
theorem ok_is_integer (T : Txt K mg A F) : FnOk P w K mg base (L2.CX P w) 1 F.a_is_integer F.d_is_integer ["value"] (spOf K 1 (S_is_integer A)) := by
  exact ok_def T.F_is_integer sc_is_integer (by decide) (fun cdv Ar outer s H E hr => ⟨_, w_is_integer A,
    (pss_one (ps_ret (pe_and (pe_callB call_isi (by rfl) T.z_isinstance bt_isinstance (pa_cons (pv 0) (pa_cons (pe_bltn (v := .ty "int") (by rfl) T.z_int bt_int rfl) pa_nil))) (pe_one (pe_not (pe_callB call_isi (by rfl) T.z_isinstance bt_isinstance (pa_cons (pv 0) (pa_cons (pe_bltn (v := .ty "bool") (by rfl) T.z_bool bt_bool rfl) pa_nil)))))))),
    (sims_ret (sim_andV (sim_cb (sim_isA T.ty) (sim_cons (sim_var (i := 0)) (sim_cons sim_ty sim_nil))) (sim_notV (sim_cb (sim_isA T.ty) (sim_cons (sim_var (i := 0)) (sim_cons sim_ty sim_nil)))))), hw_is_integer A⟩)
theorem ok_is_number (T : Txt K mg A F) : FnOk P w K mg base (L2.CX P w) 2 F.a_is_number F.d_is_number ["value", "most"] (spOf K 2 (S_is_number A)) := by
  exact ok_defD T.F_is_number sc_is_number (by decide) (fun cdv Ar outer s H E hr => ⟨_, w_is_number A,
    (pss_one (ps_ret (pe_and (pe_call (E := E0) (ok_is_integer T) (hr.mono (by decide)) (by rfl) T.g_is_integer T.F_is_integer.kp T.b_is_integer .nil passN (pa_cons (pv 0) pa_nil)) (pe_and (pe_cmpR op_geD (pv 0) pe_int (nomark _)) (pe_one (pe_or (pe_cmpR op_isND (pv 1) pe_non (nomark _)) (pe_one (pe_cmpR op_leD (pv 0) (pv 1) (nomark _))))))))),
    (sims_ret (sim_andV (sim_call0 rd0 (sim_cons (sim_var (i := 0)) sim_nil)) (sim_andV (sim_op sim_ge (sim_var (i := 0)) sim_int) (sim_orV (sim_op sim_isN (sim_var (i := 1)) sim_non) (sim_op sim_le (sim_var (i := 0)) (sim_var (i := 1))))))), hw_is_number A⟩)
theorem ok_System_init (T : Txt K mg A F) : FnOk P w K mg base (L2.CX P w) 3 F.a_System_init F.d_System_init ["self", "step"] (spInit K A.c_System 1 (S_System_init A)) := by
  obtain ⟨u_MOST_STEP, m_MOST_STEP, r_MOST_STEP⟩ := T.v_MOST_STEP
  exact ok_init T.F_System_init sc_System_init (by decide) (fun cdv Ar outer s H E hr => ⟨_, w_System_init A,
    (pss_cons (ps_if (PW.pt (pw_or (pt_not (pt_val (pe_call (E := E0) (ok_is_number T) (hr.mono (by decide)) (by rfl) T.g_is_number T.F_is_number.kp T.b_is_number .nil passN (pa_cons (pv 1) (pa_cons (pe_glob (by rfl) m_MOST_STEP r_MOST_STEP) pa_nil))))) (pw_or1 (pt_cmpR (op_eqD (hu64 hr)) (pv 1) pe_int (nomark _))))) (pss_one ps_never) pss_nil)
    (pss_one (ps_fld (pv 0) (pv 1) rfl))),
    (sims_seq (sims_if (simt_or (simt_not (simt_B (sim_call0 rd0 (sim_cons (sim_var (i := 1)) (sim_cons sim_int sim_nil))))) (simt_test (sim_op sim_eq (sim_var (i := 1)) sim_int))) sims_never sims_next)
    (sims_fld (i := 0) T.cl_System T.na_System_step (sim_var (i := 1)))), hw_System_init A⟩)
theorem ok_units_up_to (T : Txt K mg A F) : FnOk P w K mg base (L2.CX P w) 1 F.a_units_up_to F.d_units_up_to ["step", "number"] (spOf K 2 (S_units_up_to A)) := by
  exact ok_def T.F_units_up_to sc_units_up_to (by decide) (fun cdv Ar outer s H E hr => ⟨_, w_units_up_to A,
    (pss_cons (ps_par3 (i := 2) (j := 3) (l := 4) rfl sc_units_up_to.nd rfl rfl rfl (by decide) (by decide) (by decide) rfl rfl rfl (pa_cons (pe_lst pa_nil) (pa_cons pe_int (pa_cons pe_int pa_nil))) rfl)
    (pss_cons (ps_while PassesOwn.leaving (pt_cmpR op_leD (pv 4) (pv 1) (nomark _)) (pss_cons (ps_expr (pe_bm PySem.F.plainAttrs_list PySem.F.slot_list_append PySem.F.type_list_append mt_append (pv 2) (pa_cons (pv 4) pa_nil)))
    (pss_one (ps_par (i := 3) (j := 4) rfl sc_units_up_to.nd rfl rfl (by decide) rfl rfl (pa_cons (pv 4) (pa_cons (pe_op op_addD (pe_op op_mulT (pv 0) (pv 4)) (pv 3)) pa_nil)) rfl))))
    (pss_one (ps_ret (pv 2))))),
    (sims_seq (sims_parO3 (i := 2) (j := 3) (l := 4) (sim_lstO sim_nil) sim_int sim_int)
    (sims_seq (sims_while (simt_test (sim_op sim_le (sim_var (i := 4)) (sim_var (i := 1)))) (sims_seq (sims_app (i := 2) (sim_var (i := 4)))
    (sims_par (i := 3) (j := 4) (sim_var (i := 4)) (sim_op sim_add (sim_op sim_mulT (sim_var (i := 0)) (sim_var (i := 4))) (sim_var (i := 3))))))
    (sims_retO (i := 2)))), hw_units_up_to A⟩)
theorem ok_digits_of (T : Txt K mg A F) : FnOk P w K mg base (L2.CX P w) 2 F.a_digits_of F.d_digits_of ["step", "number"] (spOf K 2 (S_digits_of A)) := by
  exact ok_def T.F_digits_of sc_digits_of (by decide) (fun cdv Ar outer s H E hr => ⟨_, w_digits_of A,
    (pss_cons (ps_par (i := 2) (j := 3) rfl sc_digits_of.nd rfl rfl (by decide) rfl rfl (pa_cons (pe_lst pa_nil) (pa_cons (pv 1) pa_nil)) rfl)
    (pss_cons (ps_for PassesOwn.leaving rfl (pi_list (pe_revL (pe_call (E := E0) (ok_units_up_to T) (hr.mono (by decide)) (by rfl) T.g_units_up_to T.F_units_up_to.kp T.b_units_up_to .nil passN (pa_cons (pv 0) (pa_cons (pv 1) pa_nil))))) (pg_name (i := 4) sc_digits_of.nd rfl (by first | exact Or.inl rfl | exact Or.inr rfl)) (pss_cons (ps_expr (pe_bm PySem.F.plainAttrs_list PySem.F.slot_list_append PySem.F.type_list_append mt_append (pv 2) (pa_cons (pe_op op_divD (pv 3) (pv 4)) pa_nil)))
    (pss_one (ps_set (i := 3) sc_digits_of.nd rfl (by first | exact Or.inl rfl | exact Or.inr rfl) (pe_op op_modD (pv 3) (pv 4))))))
    (pss_one (ps_ret (pe_callTy call_tuple_of (by rfl) T.z_tuple bt_tuple (pa_cons (pv 2) pa_nil)))))),
    (sims_seq (sims_parO (i := 2) (j := 3) (sim_lstO sim_nil) (sim_var (i := 1)))
    (sims_seq (sims_for (simi_list (sim_revL (sim_call0 rd0 (sim_cons (sim_var (i := 0)) (sim_cons (sim_var (i := 1)) sim_nil))))) (simg_name (i := 4)) (sims_seq (sims_app (i := 2) (sim_op sim_div (sim_var (i := 3)) (sim_var (i := 4))))
    (sims_asg (i := 3) (sim_op sim_mod (sim_var (i := 3)) (sim_var (i := 4))))))
    (sims_ret (sim_cbl sim_tupL (siml_own (i := 2)))))), hw_digits_of A⟩)
theorem ok_System_digits (T : Txt K mg A F) : FnOk P w K mg base (L2.CX P w) 3 F.a_System_digits F.d_System_digits ["self", "number"] (spOf K 2 (S_System_digits A)) := by
  obtain ⟨u_MOST_NUMBER, m_MOST_NUMBER, r_MOST_NUMBER⟩ := T.v_MOST_NUMBER
  exact ok_def T.F_System_digits sc_System_digits (by decide) (fun cdv Ar outer s H E hr => ⟨_, w_System_digits A,
    (pss_cons (ps_if (pt_not (pt_val (pe_call (E := E0) (ok_is_number T) (hr.mono (by decide)) (by rfl) T.g_is_number T.F_is_number.kp T.b_is_number .nil passN (pa_cons (pv 1) (pa_cons (pe_glob (by rfl) m_MOST_NUMBER r_MOST_NUMBER) pa_nil))))) (pss_one ps_never) pss_nil)
    (pss_one (ps_ret (pe_call (E := E0) (ok_digits_of T) (hr.mono (by decide)) (by rfl) T.g_digits_of T.F_digits_of.kp T.b_digits_of .nil passN (pa_cons (pe_fld (pv 0) rfl) (pa_cons (pv 1) pa_nil)))))),
    (sims_seq (sims_if (simt_not (simt_B (sim_call0 rd0 (sim_cons (sim_var (i := 1)) (sim_cons sim_int sim_nil))))) sims_never sims_next)
    (sims_ret (sim_call0 rd0 (sim_cons (sim_fldC T.cl_System T.na_System_step (sim_var (i := 0))) (sim_cons (sim_var (i := 1)) sim_nil))))), hw_System_digits A⟩)
theorem ok_System_units (T : Txt K mg A F) : FnOk P w K mg base (L2.CX P w) 3 F.a_System_units F.d_System_units ["self", "count"] (spOf K 2 (S_System_units A)) := by
  obtain ⟨u_MOST_UNITS, m_MOST_UNITS, r_MOST_UNITS⟩ := T.v_MOST_UNITS
  exact ok_def T.F_System_units sc_System_units (by decide) (fun cdv Ar outer s H E hr => ⟨_, w_System_units A,
    (pss_cons (ps_if (pt_not (pt_val (pe_call (E := E0) (ok_is_number T) (hr.mono (by decide)) (by rfl) T.g_is_number T.F_is_number.kp T.b_is_number .nil passN (pa_cons (pv 1) (pa_cons (pe_glob (by rfl) m_MOST_UNITS r_MOST_UNITS) pa_nil))))) (pss_one ps_never) pss_nil)
    (pss_cons (ps_par3 (i := 2) (j := 3) (l := 4) rfl sc_System_units.nd rfl rfl rfl (by decide) (by decide) (by decide) rfl rfl rfl (pa_cons (pe_lst pa_nil) (pa_cons pe_int (pa_cons pe_int pa_nil))) rfl)
    (pss_cons (ps_for PassesOwn.leaving rfl (pi_range1 (by rfl) T.z_range (pa_cons (pv 1) pa_nil)) (pg_name (i := 5) sc_System_units.nd rfl (by first | exact Or.inl rfl | exact Or.inr rfl)) (pss_cons (ps_expr (pe_bm PySem.F.plainAttrs_list PySem.F.slot_list_append PySem.F.type_list_append mt_append (pv 2) (pa_cons (pv 4) pa_nil)))
    (pss_one (ps_par (i := 3) (j := 4) rfl sc_System_units.nd rfl rfl (by decide) rfl rfl (pa_cons (pv 4) (pa_cons (pe_op op_addD (pe_op op_mulT (pe_fld (pv 0) rfl) (pv 4)) (pv 3)) pa_nil)) rfl))))
    (pss_one (ps_ret (pe_callTy call_tuple_of (by rfl) T.z_tuple bt_tuple (pa_cons (pv 2) pa_nil))))))),
    (sims_seq (sims_if (simt_not (simt_B (sim_call0 rd0 (sim_cons (sim_var (i := 1)) (sim_cons sim_int sim_nil))))) sims_never sims_next)
    (sims_seq (sims_parO3 (i := 2) (j := 3) (l := 4) (sim_lstO sim_nil) sim_int sim_int)
    (sims_seq (sims_for (simi_rng1 (sim_cons (sim_var (i := 1)) sim_nil)) (simg_name (i := 5)) (sims_seq (sims_app (i := 2) (sim_var (i := 4)))
    (sims_par (i := 3) (j := 4) (sim_var (i := 4)) (sim_op sim_add (sim_op sim_mulT (sim_fldC T.cl_System T.na_System_step (sim_var (i := 0))) (sim_var (i := 4))) (sim_var (i := 3))))))
    (sims_ret (sim_cbl sim_tupL (siml_own (i := 2))))))), hw_System_units A⟩)
theorem ok_System_eq (T : Txt K mg A F) : FnOk P w K mg base (L2.CX P w) 1 F.a_System_eq F.d_System_eq ["self", "other"] (spOf K 2 (S_System_eq A)) := by
  exact ok_def T.F_System_eq sc_System_eq (by decide) (fun cdv Ar outer s H E hr => ⟨_, w_System_eq A,
    (pss_one (ps_ret (pe_and (pe_callB call_isi (by rfl) T.z_isinstance bt_isinstance (pa_cons (pv 1) (pa_cons (pe_glob (v := .ref A.c_System) (by rfl) T.m_System rfl) pa_nil))) (pe_one (pe_cmpR (op_eqD (hu64 hr)) (pe_fld (pv 0) rfl) (pe_fld (pv 1) rfl) (nomark _)))))),
    (sims_ret (sim_andV (sim_cb (sim_isA T.ty) (sim_cons (sim_var (i := 1)) (sim_cons sim_obj sim_nil))) (sim_op sim_eq (sim_fldC T.cl_System T.na_System_step (sim_var (i := 0))) (sim_fldC T.cl_System T.na_System_step (sim_var (i := 1)))))), hw_System_eq A⟩)
theorem ok_law_draw (T : Txt K mg A F) : FnOk P w K mg base (L2.CX P w) 1 F.a_law_draw F.d_law_draw ["_law_bag_here", "_law_wide"] (spOf K 2 sDraw) :=
  T.F_law_draw.okX sc_law_draw (fun vs H Q E h => spOf_len h) (fun cdv Ar outer s H vs Q E hr h => ⟨tDraw K, (pss_open (i := 0) (pss_cons (ps_asg (pe_op op_addD (pe_ix ix_seq (pv 0) pe_int (fun _ _ => rfl)) pe_int) (pg_sub (pv 0) pe_int set_list)) (pss_cons (ps_if (pt_cmpR op_gtD (pe_ix ix_seq (pv 0) pe_int (fun _ _ => rfl)) pe_int (nomark _)) (pss_cons (ps_set (i := 2) sc_law_draw.nd rfl (Or.inl rfl) (pe_op op_modD (pe_callTy call_int1 (by rfl) T.z_int bt_int (pa_cons (pe_ix ix_seq (pv 0) pe_int (fun _ _ => rfl)) pa_nil)) (pv 1))) (pss_cons (ps_asg (pe_op op_divD (pe_ix ix_seq (pv 0) pe_int (fun _ _ => rfl)) (pv 1)) (pg_sub (pv 0) pe_int set_list)) (pss_one (ps_ret (pe_shut (i := 0) (pv 2)))))) pss_nil) (pss_cons (ps_set (i := 3) sc_law_draw.nd rfl (Or.inl rfl) (pe_op op_addD (pe_callTy call_int1 (by rfl) T.z_int bt_int (pa_cons (pe_ix ix_seq (pv 0) pe_int (fun _ _ => rfl)) pa_nil)) (pe_op op_mulD pe_int (pe_ix ix_seq (pv 0) pe_int (fun _ _ => rfl))))) (pss_cons (ps_asg (pe_op op_modD (pe_callTy call_int1 (by rfl) T.z_int bt_int (pa_cons (pe_op op_addD (pe_op op_addD (pe_op op_mulD (pv 3) (pe_op op_addD (pe_op op_modD (pe_callTy call_int1 (by rfl) T.z_int bt_int (pa_cons (pv 3) pa_nil)) pe_int) pe_int)) (pe_op op_mulD pe_int (pe_ix ix_seq (pv 0) pe_int (fun _ _ => rfl)))) pe_int) pa_nil)) pe_int) (pg_sub (pv 0) pe_int set_list)) (pss_one (ps_ret (pe_shut (i := 0) (pe_op op_modD (pe_op op_divD (pe_callTy call_int1 (by rfl) T.z_int bt_int (pa_cons (pe_ix ix_seq (pv 0) pe_int (fun _ _ => rfl)) pa_nil)) pe_int) (pv 1)))))))))), draw_ok h rfl⟩)
theorem ok_law_units (T : Txt K mg A F) : FnOk P w K mg base (L2.CX P w) 1 F.a_law_units F.d_law_units ["_law_level", "_law_many"] (spOf K 2 (S_law_units A)) := by
  exact ok_def T.F_law_units sc_law_units (by decide) (fun cdv Ar outer s H E hr => ⟨_, w_law_units A,
    (pss_cons (ps_set (i := 2) sc_law_units.nd rfl (by first | exact Or.inl rfl | exact Or.inr rfl) (pe_lst (pa_cons pe_int (pa_cons (pe_op op_addD (pv 0) pe_int) pa_nil))))
    (pss_cons (ps_for PassesOwn.leaving rfl (pi_range1 (by rfl) T.z_range (pa_cons (pv 1) pa_nil)) (pg_name (i := 3) sc_law_units.nd rfl (by first | exact Or.inl rfl | exact Or.inr rfl)) (pss_one (ps_expr (pe_bm PySem.F.plainAttrs_list PySem.F.slot_list_append PySem.F.type_list_append mt_append (pv 2) (pa_cons (pe_op op_addD (pe_op op_mulT (pv 0) (pe_ix ix_seq (pv 2) (pe_un un_negD pe_int) (fun _ _ => rfl))) (pe_ix ix_seq (pv 2) (pe_un un_negD pe_int) (fun _ _ => rfl))) pa_nil)))))
    (pss_one (ps_ret (pe_slice sl_D (pv 2) po_none (po_some (pv 1))))))),
    (sims_seq (sims_asgO (i := 2) (sim_lstO (sim_cons sim_int (sim_cons (sim_op sim_add (sim_var (i := 0)) sim_int) sim_nil))))
    (sims_seq (sims_for (simi_rng1 (sim_cons (sim_var (i := 1)) sim_nil)) (simg_name (i := 3)) (sims_app (i := 2) (sim_op sim_add (sim_op sim_mulT (sim_var (i := 0)) (sim_ixL (i := 2) (sim_un sim_neg sim_int))) (sim_ixL (i := 2) (sim_un sim_neg sim_int)))))
    (sims_ret (sim_fz (simo_slOwn (i := 2) simp_no (simp_part (sim_var (i := 1)))))))), hw_law_units A⟩)
theorem ok_law_great (T : Txt K mg A F) : FnOk P w K mg base (L2.CX P w) 2 F.a_law_great F.d_law_great ["_law_bag_here", "_law_level"] (spOf K 2 (S_law_great A)) := by
  exact ok_def T.F_law_great sc_law_great (by decide) (fun cdv Ar outer s H E hr => ⟨_, w_law_great A,
    (pss_cons (ps_par (i := 2) (j := 3) rfl sc_law_great.nd rfl rfl (by decide) rfl rfl (pa_cons (pe_call (E := E0) (ok_law_draw T) (hr.mono (by decide)) (by rfl) T.g_law_draw T.F_law_draw.kp T.b_law_draw .nil passN (pa_cons (pv 0) (pa_cons pe_int pa_nil))) (pa_cons pe_int pa_nil)) rfl)
    (pss_cons (ps_if (pt_cmpR op_ltD (pv 2) pe_int (nomark _)) (pss_one (ps_ret (pe_call (E := E0) (ok_law_draw T) (hr.mono (by decide)) (by rfl) T.g_law_draw T.F_law_draw.kp T.b_law_draw .nil passN (pa_cons (pv 0) (pa_cons pe_int pa_nil))))) pss_nil)
    (pss_cons (ps_if (pt_cmpR (op_eqD (hu64 hr)) (pv 2) pe_int (nomark _)) (pss_one (ps_ret (pe_op op_subD (pe_op op_addD (pe_ix ix_seq (pe_call (E := E0) (ok_law_units T) (hr.mono (by decide)) (by rfl) T.g_law_units T.F_law_units.kp T.b_law_units .nil passN (pa_cons (pv 1) (pa_cons (pe_op op_addD pe_int (pe_call (E := E0) (ok_law_draw T) (hr.mono (by decide)) (by rfl) T.g_law_draw T.F_law_draw.kp T.b_law_draw .nil passN (pa_cons (pv 0) (pa_cons pe_int pa_nil)))) pa_nil))) (pe_un un_negD pe_int) (fun _ _ => rfl)) (pe_call (E := E0) (ok_law_draw T) (hr.mono (by decide)) (by rfl) T.g_law_draw T.F_law_draw.kp T.b_law_draw .nil passN (pa_cons (pv 0) (pa_cons pe_int pa_nil)))) pe_int))) pss_nil)
    (pss_cons (ps_for PassesOwn.leaving rfl (pi_range1 (by rfl) T.z_range (pa_cons (pe_op op_addD pe_int (pe_call (E := E0) (ok_law_draw T) (hr.mono (by decide)) (by rfl) T.g_law_draw T.F_law_draw.kp T.b_law_draw .nil passN (pa_cons (pv 0) (pa_cons pe_int pa_nil)))) pa_nil)) (pg_name (i := 4) sc_law_great.nd rfl (by first | exact Or.inl rfl | exact Or.inr rfl)) (pss_one (ps_set (i := 3) sc_law_great.nd rfl (by first | exact Or.inl rfl | exact Or.inr rfl) (pe_op op_addD (pe_op op_mulT (pv 3) pe_int) (pe_call (E := E0) (ok_law_draw T) (hr.mono (by decide)) (by rfl) T.g_law_draw T.F_law_draw.kp T.b_law_draw .nil passN (pa_cons (pv 0) (pa_cons pe_int pa_nil)))))))
    (pss_one (ps_ret (pv 3))))))),
    (sims_seq (sims_par (i := 2) (j := 3) (sim_call0 rd0 (sim_cons (sim_var (i := 0)) (sim_cons sim_int sim_nil))) sim_int)
    (sims_seq (sims_if (simt_test (sim_op sim_lt (sim_var (i := 2)) sim_int)) (sims_ret (sim_call0 rd0 (sim_cons (sim_var (i := 0)) (sim_cons sim_int sim_nil)))) sims_next)
    (sims_seq (sims_if (simt_test (sim_op sim_eq (sim_var (i := 2)) sim_int)) (sims_ret (sim_op sim_sub (sim_op sim_add (sim_op sim_ix (sim_call0 rd0 (sim_cons (sim_var (i := 1)) (sim_cons (sim_op sim_add sim_int (sim_call0 rd0 (sim_cons (sim_var (i := 0)) (sim_cons sim_int sim_nil)))) sim_nil))) (sim_un sim_neg sim_int)) (sim_call0 rd0 (sim_cons (sim_var (i := 0)) (sim_cons sim_int sim_nil)))) sim_int)) sims_next)
    (sims_seq (sims_for (simi_rng1 (sim_cons (sim_op sim_add sim_int (sim_call0 rd0 (sim_cons (sim_var (i := 0)) (sim_cons sim_int sim_nil)))) sim_nil)) (simg_name (i := 4)) (sims_asg (i := 3) (sim_op sim_add (sim_op sim_mulT (sim_var (i := 3)) sim_int) (sim_call0 rd0 (sim_cons (sim_var (i := 0)) (sim_cons sim_int sim_nil))))))
    (sims_ret (sim_var (i := 3))))))), hw_law_great A⟩)
theorem ok_law_digits (T : Txt K mg A F) : FnOk P w K mg base (L2.CX P w) 2 F.a_law_digits F.d_law_digits ["_law_level", "_law_amount"] (spOf K 2 (S_law_digits A)) := by
  exact ok_def T.F_law_digits sc_law_digits (by decide) (fun cdv Ar outer s H E hr => ⟨_, w_law_digits A,
    (pss_cons (ps_asg (pe_tup (pa_cons (pe_lst pa_nil) (pa_cons (pv 1) pa_nil))) (pg_tup rfl (pgs_cons (pg_name (i := 2) sc_law_digits.nd rfl (by first | exact Or.inl rfl | exact Or.inr rfl)) (pgs_cons (pg_name (i := 3) sc_law_digits.nd rfl (by first | exact Or.inl rfl | exact Or.inr rfl)) pgs_nil))))
    (pss_cons (ps_for PassesOwn.leaving rfl (pi_list (pe_revL (pe_lc rfl sc_law_digits.nd (pi_list (pe_call (E := E0) (ok_law_units T) (hr.mono (by decide)) (by rfl) T.g_law_units T.F_law_units.kp T.b_law_units .nil passN (pa_cons (pv 0) (pa_cons pe_int pa_nil)))) (own := [("_law_unit", 4)]) (blkOk_by (by kernel_rfl)) (fun _ _ _ _ _ => (pg_name (i := 4) sc_law_digits.nd rfl (by first | exact Or.inl rfl | exact Or.inr rfl))) (fun _ _ _ _ _ => (pts_one (pt_cmpR op_leD (pv 4) (pv 1) (nomark _)))) (fun _ _ _ _ _ => (pv 4))))) (pg_name (i := 4) sc_law_digits.nd rfl (by first | exact Or.inl rfl | exact Or.inr rfl)) (pss_cons (ps_set (i := 5) sc_law_digits.nd rfl (by first | exact Or.inl rfl | exact Or.inr rfl) (pe_callB call_len (by rfl) T.z_len bt_len (pa_cons (pe_lc rfl sc_law_digits.nd (pi_range2 (by rfl) T.z_range (pa_cons pe_int (pa_cons (pe_op op_addD (pv 0) pe_int) pa_nil))) (own := [("_law_k", 6)]) (blkOk_by (by kernel_rfl)) (fun _ _ _ _ _ => (pg_name (i := 6) sc_law_digits.nd rfl (by first | exact Or.inl rfl | exact Or.inr rfl))) (fun _ _ _ _ _ => (pts_one (pt_cmpR op_leD (pe_op op_mulT (pv 6) (pv 4)) (pv 3) (nomark _)))) (fun _ _ _ _ _ => (pv 6))) pa_nil)))
    (pss_cons (ps_expr (pe_bm PySem.F.plainAttrs_list PySem.F.slot_list_append PySem.F.type_list_append mt_append (pv 2) (pa_cons (pv 5) pa_nil)))
    (pss_one (ps_set (i := 3) sc_law_digits.nd rfl (by first | exact Or.inl rfl | exact Or.inr rfl) (pe_op op_subD (pv 3) (pe_op op_mulT (pv 5) (pv 4))))))))
    (pss_one (ps_ret (pe_callTy call_tuple_of (by rfl) T.z_tuple bt_tuple (pa_cons (pv 2) pa_nil)))))),
    (sims_seq (sims_tupO (i := 2) (j := 3) (sim_lstO sim_nil) (sim_var (i := 1)))
    (sims_seq (sims_for (simi_list (sim_revL (sim_fz (simo_lc (simi_list (sim_call0 rd0 (sim_cons (sim_var (i := 0)) (sim_cons sim_int sim_nil)))) (simg_name (i := 4)) (simt_test (sim_op sim_le (sim_var (i := 4)) (sim_var (i := 1)))) (sim_var (i := 4)) (by decide))))) (simg_name (i := 4)) (sims_seq (sims_asg (i := 5) (sim_cbl sim_lenL (siml_O (simo_lc (simi_rng2 (sim_cons sim_int (sim_cons (sim_op sim_add (sim_var (i := 0)) sim_int) sim_nil))) (simg_name (i := 6)) (simt_test (sim_op sim_le (sim_op sim_mulT (sim_var (i := 6)) (sim_var (i := 4))) (sim_var (i := 3)))) (sim_var (i := 6)) (by decide)))))
    (sims_seq (sims_app (i := 2) (sim_var (i := 5)))
    (sims_asg (i := 3) (sim_op sim_sub (sim_var (i := 3)) (sim_op sim_mulT (sim_var (i := 5)) (sim_var (i := 4))))))))
    (sims_ret (sim_cbl sim_tupL (siml_own (i := 2)))))), hw_law_digits A⟩)
theorem ok_number_of (T : Txt K mg A F) : FnOk P w K mg base (L2.CX P w) 1 F.a_number_of F.d_number_of ["step", "digits"] (spOf K 2 (S_number_of A)) := by
  exact ok_def T.F_number_of sc_number_of (by decide) (fun cdv Ar outer s H E hr => ⟨_, w_number_of A,
    (pss_cons (ps_asg (pe_tup (pa_cons pe_int (pa_cons pe_int (pa_cons pe_int pa_nil)))) (pg_tup rfl (pgs_cons (pg_name (i := 2) sc_number_of.nd rfl (by first | exact Or.inl rfl | exact Or.inr rfl)) (pgs_cons (pg_name (i := 3) sc_number_of.nd rfl (by first | exact Or.inl rfl | exact Or.inr rfl)) (pgs_cons (pg_name (i := 4) sc_number_of.nd rfl (by first | exact Or.inl rfl | exact Or.inr rfl)) pgs_nil)))))
    (pss_cons (ps_for PassesOwn.leaving rfl (pi_tup (pe_revT (pv 1))) (pg_name (i := 5) sc_number_of.nd rfl (by first | exact Or.inl rfl | exact Or.inr rfl)) (pss_cons (ps_aug (i := 2) sc_number_of.nd rfl (by first | exact Or.inl rfl | exact Or.inr rfl) (pe_op op_mulT (pv 5) (pv 4)) ip_add)
    (pss_one (ps_par (i := 3) (j := 4) rfl sc_number_of.nd rfl rfl (by decide) rfl rfl (pa_cons (pv 4) (pa_cons (pe_op op_addD (pe_op op_mulT (pv 0) (pv 4)) (pv 3)) pa_nil)) rfl))))
    (pss_one (ps_ret (pv 2))))),
    (sims_seq (sims_asgG (sim_tup (sim_cons sim_int (sim_cons sim_int (sim_cons sim_int sim_nil)))) (simg_names (js := [2, 3, 4]) (n := 3)))
    (sims_seq (sims_for (simi_tup (sim_revT (sim_var (i := 1)))) (simg_name (i := 5)) (sims_seq (sims_aug (i := 2) (sim_op sim_mulT (sim_var (i := 5)) (sim_var (i := 4))))
    (sims_par (i := 3) (j := 4) (sim_var (i := 4)) (sim_op sim_add (sim_op sim_mulT (sim_var (i := 0)) (sim_var (i := 4))) (sim_var (i := 3))))))
    (sims_ret (sim_var (i := 2))))), hw_number_of A⟩)
theorem ok_System_is_digits (T : Txt K mg A F) : FnOk P w K mg base (L2.CX P w) 3 F.a_System_is_digits F.d_System_is_digits ["self", "value"] (spOf K 2 (S_System_is_digits A)) := by
  exact ok_def T.F_System_is_digits sc_System_is_digits (by decide) (fun cdv Ar outer s H E hr => ⟨_, w_System_is_digits A,
    (pss_cons (ps_if (PW.pt (pw_or (pt_not (pt_val (pe_callB call_isi (by rfl) T.z_isinstance bt_isinstance (pa_cons (pv 1) (pa_cons (pe_bltn (v := .ty "tuple") (by rfl) T.z_tuple bt_tuple rfl) pa_nil))))) (pw_or1 (pt_not (pt_val (pe_callB (cr_all rfl) (by rfl) T.z_all bt_all (pa_cons (pe_lc rfl sc_System_is_digits.nd (pi_tup (pv 1)) (own := [("digit", 2)]) (blkOk_by (by kernel_rfl)) (fun _ _ _ _ _ => (pg_name (i := 2) sc_System_is_digits.nd rfl (by first | exact Or.inl rfl | exact Or.inr rfl))) (fun _ _ _ _ _ => pts_nil) (fun _ _ _ _ _ => (pe_call (E := E0) (ok_is_number T) (hr.mono (by decide)) (by rfl) T.g_is_number T.F_is_number.kp T.b_is_number .nil passN (pa_cons (pv 2) (pa_cons (pe_fld (pv 0) rfl) pa_nil))))) pa_nil))))))) (pss_one (ps_ret pe_bl)) pss_nil)
    (pss_one (ps_ret (pe_callB (cr_all rfl) (by rfl) T.z_all bt_all (pa_cons (pe_lc rfl sc_System_is_digits.nd (pi_range2 (by rfl) T.z_range (pa_cons pe_int (pa_cons (pe_callB call_len (by rfl) T.z_len bt_len (pa_cons (pv 1) pa_nil)) pa_nil))) (own := [("at", 3)]) (blkOk_by (by kernel_rfl)) (fun _ _ _ _ _ => (pg_name (i := 3) sc_System_is_digits.nd rfl (by first | exact Or.inl rfl | exact Or.inr rfl))) (fun _ _ _ _ _ => pts_nil) (fun _ _ _ _ _ => (pe_or (pe_cmpR op_ltD (pe_ix ix_seq (pv 1) (pe_op op_subD (pv 3) pe_int) (fun _ _ => rfl)) (pe_fld (pv 0) rfl) (nomark _)) (pe_one (pe_cmpR (op_eqD (hu64 hr)) (pe_ix ix_seq (pv 1) (pv 3) (fun _ _ => rfl)) pe_int (nomark _)))))) pa_nil))))),
    (sims_seq (sims_if (simt_or (simt_not (simt_B (sim_cb (sim_isA T.ty) (sim_cons (sim_var (i := 1)) (sim_cons sim_ty sim_nil))))) (simt_not (simt_B (sim_cbl sim_allL (siml_O (simo_lc (simi_tup (sim_var (i := 1))) (simg_name (i := 2)) simt_yes (sim_call0 rd0 (sim_cons (sim_var (i := 2)) (sim_cons (sim_fldC T.cl_System T.na_System_step (sim_var (i := 0))) sim_nil))) (by decide))))))) (sims_ret sim_bl) sims_next)
    (sims_ret (sim_cbl sim_allL (siml_O (simo_lc (simi_rng2 (sim_cons sim_int (sim_cons (sim_cb sim_len (sim_cons (sim_var (i := 1)) sim_nil)) sim_nil))) (simg_name (i := 3)) simt_yes (sim_orV (sim_op sim_lt (sim_op sim_ix (sim_var (i := 1)) (sim_op sim_sub (sim_var (i := 3)) sim_int)) (sim_fldC T.cl_System T.na_System_step (sim_var (i := 0)))) (sim_op sim_eq (sim_op sim_ix (sim_var (i := 1)) (sim_var (i := 3))) sim_int)) (by decide)))))), hw_System_is_digits A⟩)
theorem ok_System_number (T : Txt K mg A F) : FnOk P w K mg base (L2.CX P w) 4 F.a_System_number F.d_System_number ["self", "digits"] (spOf K 2 (S_System_number A)) := by
  obtain ⟨u_MOST_UNITS, m_MOST_UNITS, r_MOST_UNITS⟩ := T.v_MOST_UNITS
  exact ok_def T.F_System_number sc_System_number (by decide) (fun cdv Ar outer s H E hr => ⟨_, w_System_number A,
    (pss_cons (ps_if (PW.pt (pw_or (pt_not (pt_val (pe_meth (E := E0) (pv 0) T.cl_System T.me_System_is_digits (ok_System_is_digits T) (hr.mono (by decide)) T.b_System_is_digits .nil passN (pa_cons (pv 1) pa_nil)))) (pw_or1 (pt_cmpR op_gtD (pe_callB call_len (by rfl) T.z_len bt_len (pa_cons (pv 1) pa_nil)) (pe_glob (by rfl) m_MOST_UNITS r_MOST_UNITS) (nomark _))))) (pss_one ps_never) pss_nil)
    (pss_one (ps_ret (pe_call (E := E0) (ok_number_of T) (hr.mono (by decide)) (by rfl) T.g_number_of T.F_number_of.kp T.b_number_of .nil passN (pa_cons (pe_fld (pv 0) rfl) (pa_cons (pv 1) pa_nil)))))),
    (sims_seq (sims_if (simt_or (simt_not (simt_B (sim_meth0 rd0 (sim_var (i := 0)) (sim_cons (sim_var (i := 1)) sim_nil)))) (simt_test (sim_op sim_gt (sim_cb sim_len (sim_cons (sim_var (i := 1)) sim_nil)) sim_int))) sims_never sims_next)
    (sims_ret (sim_call0 rd0 (sim_cons (sim_fldC T.cl_System T.na_System_step (sim_var (i := 0))) (sim_cons (sim_var (i := 1)) sim_nil))))), hw_System_number A⟩)
theorem ok_law_right (T : Txt K mg A F) : FnOk P w K mg base (L2.CX P w) 5 F.a_law_right F.d_law_right ["_law_bag_here"] (spOf K 1 (S_law_right A)) := by
  exact ok_def T.F_law_right sc_law_right (by decide) (fun cdv Ar outer s H E hr => ⟨_, w_law_right A,
    (pss_cons (ps_for PassesOwn.leaving rfl (pi_range2 (by rfl) T.z_range (pa_cons pe_int (pa_cons pe_int pa_nil))) (pg_name (i := 1) sc_law_right.nd rfl (by first | exact Or.inl rfl | exact Or.inr rfl)) (pss_cons (ps_par (i := 2) (j := 3) rfl sc_law_right.nd rfl rfl (by decide) rfl rfl (pa_cons (pe_make (E := E0) T.mk_System (ok_System_init T) (hr.mono (by decide)) (by rfl) T.m_System T.b_System_init .nil passN (pa_cons (pv 1) pa_nil)) (pa_cons (pe_call (E := E0) (ok_law_draw T) (hr.mono (by decide)) (by rfl) T.g_law_draw T.F_law_draw.kp T.b_law_draw .nil passN (pa_cons (pv 0) (pa_cons pe_int pa_nil))) pa_nil)) rfl)
    (pss_cons (ps_set (i := 4) sc_law_right.nd rfl (by first | exact Or.inl rfl | exact Or.inr rfl) (pe_callTy call_tuple_of (by rfl) T.z_tuple bt_tuple (pa_cons (pe_call (E := E0) (ok_law_units T) (hr.mono (by decide)) (by rfl) T.g_law_units T.F_law_units.kp T.b_law_units .nil passN (pa_cons (pv 1) (pa_cons (pv 3) pa_nil))) pa_nil)))
    (pss_cons (ps_if (PW.pt (pw_or (pt_cmpR (op_neD (hu64 hr)) (pe_lst (pa_cons (pe_meth (E := E0) (pv 2) T.cl_System T.me_System_units (ok_System_units T) (hr.mono (by decide)) T.b_System_units .nil passN (pa_cons (pv 3) pa_nil)) (pa_cons (pe_methK0 (E := E0) (pv 2) T.cl_System T.me_System_units (ok_System_units T) (hr.mono (by decide)) T.kb_System_units_1_count passN (pk_cons (pv 3) pk_nil) rfl) pa_nil))) (pe_lst (pa_cons (pv 4) (pa_cons (pv 4) pa_nil))) (nomark _)) (pw_or1 (pt_cmpR (op_neD (hu64 hr)) (pe_fld (pv 2) rfl) (pv 1) (nomark _))))) (pss_one (ps_ret pe_bl)) pss_nil)
    (pss_one (ps_for PassesOwn.leaving rfl (pi_range1 (by rfl) T.z_range (pa_cons pe_int pa_nil)) (pg_name (i := 5) sc_law_right.nd rfl (by first | exact Or.inl rfl | exact Or.inr rfl)) (pss_cons (ps_set (i := 6) sc_law_right.nd rfl (by first | exact Or.inl rfl | exact Or.inr rfl) (pe_call (E := E0) (ok_law_great T) (hr.mono (by decide)) (by rfl) T.g_law_great T.F_law_great.kp T.b_law_great .nil passN (pa_cons (pv 0) (pa_cons (pv 1) pa_nil))))
    (pss_cons (ps_set (i := 4) sc_law_right.nd rfl (by first | exact Or.inl rfl | exact Or.inr rfl) (pe_call (E := E0) (ok_law_digits T) (hr.mono (by decide)) (by rfl) T.g_law_digits T.F_law_digits.kp T.b_law_digits .nil passN (pa_cons (pv 1) (pa_cons (pv 6) pa_nil))))
    (pss_cons (ps_if (pt_cmpR (op_neD (hu64 hr)) (pe_lst (pa_cons (pe_meth (E := E0) (pv 2) T.cl_System T.me_System_digits (ok_System_digits T) (hr.mono (by decide)) T.b_System_digits .nil passN (pa_cons (pv 6) pa_nil)) (pa_cons (pe_methK0 (E := E0) (pv 2) T.cl_System T.me_System_digits (ok_System_digits T) (hr.mono (by decide)) T.kb_System_digits_1_number passN (pk_cons (pv 6) pk_nil) rfl) (pa_cons (pe_meth (E := E0) (pe_makeK0 (E := E0) T.mk_System (ok_System_init T) (hr.mono (by decide)) (by rfl) T.m_System T.kb_System_init_1_step passN (pk_cons (pv 1) pk_nil)) T.cl_System T.me_System_digits (ok_System_digits T) (hr.mono (by decide)) T.b_System_digits .nil passN (pa_cons (pv 6) pa_nil)) pa_nil)))) (pe_op op_mulT (pe_lst (pa_cons (pv 4) pa_nil)) pe_int) (nomark _)) (pss_one (ps_ret pe_bl)) pss_nil)
    (pss_cons (ps_if (pt_cmpR (op_neD (hu64 hr)) (pe_lst (pa_cons (pe_meth (E := E0) (pv 2) T.cl_System T.me_System_number (ok_System_number T) (hr.mono (by decide)) T.b_System_number .nil passN (pa_cons (pv 4) pa_nil)) (pa_cons (pe_methK0 (E := E0) (pv 2) T.cl_System T.me_System_number (ok_System_number T) (hr.mono (by decide)) T.kb_System_number_1_digits passN (pk_cons (pe_op op_addD (pe_op op_mulT (pe_tup (pa_cons pe_int pa_nil)) (pe_call (E := E0) (ok_law_draw T) (hr.mono (by decide)) (by rfl) T.g_law_draw T.F_law_draw.kp T.b_law_draw .nil passN (pa_cons (pv 0) (pa_cons pe_int pa_nil)))) (pv 4)) pk_nil) rfl) pa_nil))) (pe_lst (pa_cons (pv 6) (pa_cons (pv 6) pa_nil))) (nomark _)) (pss_one (ps_ret pe_bl)) pss_nil)
    (pss_one (ps_if (PW.pt (pw_or (pt_not (pt_val (pe_meth (E := E0) (pv 2) T.cl_System T.me_System_is_digits (ok_System_is_digits T) (hr.mono (by decide)) T.b_System_is_digits .nil passN (pa_cons (pv 4) pa_nil)))) (pw_or1 (pt_not (pt_val (pe_methK0 (E := E0) (pv 2) T.cl_System T.me_System_is_digits (ok_System_is_digits T) (hr.mono (by decide)) T.kb_System_is_digits_1_value passN (pk_cons (pe_op op_addD (pe_tup (pa_cons pe_int pa_nil)) (pv 4)) pk_nil) rfl)))))) (pss_one (ps_ret pe_bl)) pss_nil))))))))))))
    (pss_cons (ps_set (i := 7) sc_law_right.nd rfl (by first | exact Or.inl rfl | exact Or.inr rfl) (pe_lst (pa_cons (pe_make (E := E0) T.mk_System (ok_System_init T) (hr.mono (by decide)) (by rfl) T.m_System T.b_System_init .nil passN (pa_cons pe_int pa_nil)) (pa_cons (pe_make (E := E0) T.mk_System (ok_System_init T) (hr.mono (by decide)) (by rfl) T.m_System T.b_System_init .nil passN (pa_cons pe_int pa_nil)) (pa_cons (pe_make (E := E0) T.mk_System (ok_System_init T) (hr.mono (by decide)) (by rfl) T.m_System T.b_System_init .nil passN (pa_cons pe_int pa_nil)) pa_nil)))))
    (pss_cons (ps_if (pt_cmpR (op_neD (hu64 hr)) (pe_lc rfl sc_law_right.nd (pi_list (pv 7)) (own := [("_law_this", 9)]) (blkOk_by (by kernel_rfl)) (fun _ _ _ _ _ => (pg_name (i := 9) sc_law_right.nd rfl (by first | exact Or.inl rfl | exact Or.inr rfl))) (fun _ _ _ _ _ => pts_nil) (fun _ _ _ _ _ => (pe_lc rfl sc_law_right.nd (pi_list (pv 7)) (own := [("_law_that", 8)]) (blkOk_by (by kernel_rfl)) (fun _ _ _ _ _ => (pg_name (i := 8) sc_law_right.nd rfl (by first | exact Or.inl rfl | exact Or.inr rfl))) (fun _ _ _ _ _ => pts_nil) (fun _ _ _ _ _ => (pe_cmpR (op_ownEq (E := E0) T.me_System_eq.at_ T.me_System_eq.fn (ok_System_eq T) T.b_System_eq (hr.mono (by decide)) passN) (pv 9) (pv 8) (nomark _)))))) (pe_lc rfl sc_law_right.nd (pi_range1 (by rfl) T.z_range (pa_cons pe_int pa_nil)) (own := [("_law_k", 11)]) (blkOk_by (by kernel_rfl)) (fun _ _ _ _ _ => (pg_name (i := 11) sc_law_right.nd rfl (by first | exact Or.inl rfl | exact Or.inr rfl))) (fun _ _ _ _ _ => pts_nil) (fun _ _ _ _ _ => (pe_lc rfl sc_law_right.nd (pi_range1 (by rfl) T.z_range (pa_cons pe_int pa_nil)) (own := [("_law_j", 10)]) (blkOk_by (by kernel_rfl)) (fun _ _ _ _ _ => (pg_name (i := 10) sc_law_right.nd rfl (by first | exact Or.inl rfl | exact Or.inr rfl))) (fun _ _ _ _ _ => pts_nil) (fun _ _ _ _ _ => (pe_cmpR (op_eqD (hu64 hr)) (pv 11) (pv 10) (nomark _)))))) (nomark _)) (pss_one (ps_ret pe_bl)) pss_nil)
    (pss_one (ps_ret (pe_and (pe_cmpR (op_ownNe (E := E0) T.cl_System T.me_System_eq.at_ T.ne_System T.me_System_eq.fn (ok_System_eq T) T.b_System_eq (hr.mono (by decide)) passN) (pe_ix ix_seq (pv 7) pe_int (fun _ _ => rfl)) (pe_ix ix_seq (pv 7) pe_int (fun _ _ => rfl)) (nomark _)) (pe_and (pe_not (pe_cmpR (op_ownNe (E := E0) T.cl_System T.me_System_eq.at_ T.ne_System T.me_System_eq.fn (ok_System_eq T) T.b_System_eq (hr.mono (by decide)) passN) (pe_ix ix_seq (pv 7) pe_int (fun _ _ => rfl)) (pe_make (E := E0) T.mk_System (ok_System_init T) (hr.mono (by decide)) (by rfl) T.m_System T.b_System_init .nil passN (pa_cons pe_int pa_nil)) (nomark _))) (pe_one (pe_cmpR (op_ownNe (E := E0) T.cl_System T.me_System_eq.at_ T.ne_System T.me_System_eq.fn (ok_System_eq T) T.b_System_eq (hr.mono (by decide)) passN) (pe_ix ix_seq (pv 7) pe_int (fun _ _ => rfl)) pe_int (nomark _)))))))))),
    (sims_seq (sims_for (simi_rng2 (sim_cons sim_int (sim_cons sim_int sim_nil))) (simg_name (i := 1)) (sims_seq (sims_par (i := 2) (j := 3) (sim_make0 rd0 (sim_cons (sim_var (i := 1)) sim_nil)) (sim_call0 rd0 (sim_cons (sim_var (i := 0)) (sim_cons sim_int sim_nil))))
    (sims_seq (sims_asg (i := 4) (sim_cbl sim_tupL (siml_E (sim_call0 rd0 (sim_cons (sim_var (i := 1)) (sim_cons (sim_var (i := 3)) sim_nil))))))
    (sims_seq (sims_if (simt_or (simt_test (sim_op sim_ne (sim_fz (sim_lstO (sim_cons (sim_meth0 rd0 (sim_var (i := 2)) (sim_cons (sim_var (i := 3)) sim_nil)) (sim_cons (sim_methN0 (pm_ok [0]) (sim_var (i := 2)) (sim_cons (sim_var (i := 3)) sim_nil)) sim_nil)))) (sim_fz (sim_lstO (sim_cons (sim_var (i := 4)) (sim_cons (sim_var (i := 4)) sim_nil)))))) (simt_test (sim_op sim_ne (sim_fldC T.cl_System T.na_System_step (sim_var (i := 2))) (sim_var (i := 1))))) (sims_ret sim_bl) sims_next)
    (sims_for (simi_rng1 (sim_cons sim_int sim_nil)) (simg_name (i := 5)) (sims_seq (sims_asg (i := 6) (sim_call0 rd0 (sim_cons (sim_var (i := 0)) (sim_cons (sim_var (i := 1)) sim_nil))))
    (sims_seq (sims_asg (i := 4) (sim_call0 rd0 (sim_cons (sim_var (i := 1)) (sim_cons (sim_var (i := 6)) sim_nil))))
    (sims_seq (sims_if (simt_test (sim_op sim_ne (sim_fz (sim_lstO (sim_cons (sim_meth0 rd0 (sim_var (i := 2)) (sim_cons (sim_var (i := 6)) sim_nil)) (sim_cons (sim_methN0 (pm_ok [0]) (sim_var (i := 2)) (sim_cons (sim_var (i := 6)) sim_nil)) (sim_cons (sim_meth0 rd0 (sim_makeK0 (pw_hv [0]) (pw_ok [0]) (sim_cons (sim_var (i := 1)) sim_nil)) (sim_cons (sim_var (i := 6)) sim_nil)) sim_nil))))) (sim_op sim_mulT (sim_fz (sim_lstO (sim_cons (sim_var (i := 4)) sim_nil))) sim_int))) (sims_ret sim_bl) sims_next)
    (sims_seq (sims_if (simt_test (sim_op sim_ne (sim_fz (sim_lstO (sim_cons (sim_meth0 rd0 (sim_var (i := 2)) (sim_cons (sim_var (i := 4)) sim_nil)) (sim_cons (sim_methN0 (pm_ok [0]) (sim_var (i := 2)) (sim_cons (sim_op sim_add (sim_op sim_mulT (sim_tup (sim_cons sim_int sim_nil)) (sim_call0 rd0 (sim_cons (sim_var (i := 0)) (sim_cons sim_int sim_nil)))) (sim_var (i := 4))) sim_nil)) sim_nil)))) (sim_fz (sim_lstO (sim_cons (sim_var (i := 6)) (sim_cons (sim_var (i := 6)) sim_nil)))))) (sims_ret sim_bl) sims_next)
    (sims_if (simt_or (simt_not (simt_B (sim_meth0 rd0 (sim_var (i := 2)) (sim_cons (sim_var (i := 4)) sim_nil)))) (simt_not (simt_B (sim_methN0 (pm_ok [0]) (sim_var (i := 2)) (sim_cons (sim_op sim_add (sim_tup (sim_cons sim_int sim_nil)) (sim_var (i := 4))) sim_nil))))) (sims_ret sim_bl) sims_next))))))))))
    (sims_seq (sims_asg (i := 7) (sim_fz (sim_lstO (sim_cons (sim_make0 rd0 (sim_cons sim_int sim_nil)) (sim_cons (sim_make0 rd0 (sim_cons sim_int sim_nil)) (sim_cons (sim_make0 rd0 (sim_cons sim_int sim_nil)) sim_nil))))))
    (sims_seq (sims_if (simt_test (sim_op sim_ne (sim_fz (simo_lc (simi_list (sim_var (i := 7))) (simg_name (i := 9)) simt_yes (sim_fz (simo_lc (simi_list (sim_var (i := 7))) (simg_name (i := 8)) simt_yes (sim_op (sim_eqO T.ty) (sim_var (i := 9)) (sim_var (i := 8))) (by decide))) (by decide))) (sim_fz (simo_lc (simi_rng1 (sim_cons sim_int sim_nil)) (simg_name (i := 11)) simt_yes (sim_fz (simo_lc (simi_rng1 (sim_cons sim_int sim_nil)) (simg_name (i := 10)) simt_yes (sim_op sim_eq (sim_var (i := 11)) (sim_var (i := 10))) (by decide))) (by decide))))) (sims_ret sim_bl) sims_next)
    (sims_ret (sim_andV (sim_op (sim_neO T.ty) (sim_op sim_ix (sim_var (i := 7)) sim_int) (sim_op sim_ix (sim_var (i := 7)) sim_int)) (sim_andV (sim_notV (sim_op (sim_neO T.ty) (sim_op sim_ix (sim_var (i := 7)) sim_int) (sim_make0 rd0 (sim_cons sim_int sim_nil)))) (sim_op (sim_neO T.ty) (sim_op sim_ix (sim_var (i := 7)) sim_int) sim_int))))))), hw_law_right A⟩)
theorem ok_law_bag (T : Txt K mg A F) : FnOk P w K mg base (L2.CX P w) 1 F.a_law_bag F.d_law_bag ["_law_cells", "_law_k"] (spOf K 2 (S_law_bag A)) := by
  exact ok_def T.F_law_bag sc_law_bag (by decide) (fun cdv Ar outer s H E hr => ⟨_, w_law_bag A,
    (pss_cons (ps_par (i := 2) (j := 3) rfl sc_law_bag.nd rfl rfl (by decide) rfl rfl (pa_cons (pe_ifExp (pt_cmpR op_ltD (pv 1) (pe_callB call_len (by rfl) T.z_len bt_len (pa_cons (pv 0) pa_nil)) (nomark _)) (pe_callTy call_int1 (by rfl) T.z_int bt_int (pa_cons (pe_ix ix_seq (pv 0) (pv 1) (fun _ _ => rfl)) pa_nil)) pe_int) (pa_cons (pe_op op_mulT pe_int (pe_op op_addD (pv 1) pe_int)) pa_nil)) rfl)
    (pss_cons (ps_for PassesOwn.leaving rfl (pi_list (pe_slice sl_D (pv 0) po_none (po_some pe_int))) (pg_name (i := 4) sc_law_bag.nd rfl (by first | exact Or.inl rfl | exact Or.inr rfl)) (pss_one (ps_set (i := 3) sc_law_bag.nd rfl (by first | exact Or.inl rfl | exact Or.inr rfl) (pe_op op_modD (pe_callTy call_int1 (by rfl) T.z_int bt_int (pa_cons (pe_op op_addD (pe_op op_addD (pe_op op_mulT (pv 3) pe_int) (pe_op op_modD (pe_callTy call_int1 (by rfl) T.z_int bt_int (pa_cons (pv 4) pa_nil)) pe_int)) (pe_op op_mulT pe_int (pv 1))) pa_nil)) pe_int))))
    (pss_cons (ps_set (i := 5) sc_law_bag.nd rfl (by first | exact Or.inl rfl | exact Or.inr rfl) (pe_ifExp (PW.pt (pw_or (pt_cmpR op_ltD (pv 2) pe_int (nomark _)) (pw_or1 (pt_cmpR op_geD (pv 2) (pe_op op_powD pe_int pe_int) (nomark _))))) (pe_callB call_abs (by rfl) T.z_abs bt_abs (pa_cons (pv 2) pa_nil)) pe_int))
    (pss_one (ps_ret (pe_asBag (pe_lst (pa_cons (pv 5) (pa_cons (pe_op op_modD (pe_callTy call_int1 (by rfl) T.z_int bt_int (pa_cons (pe_op op_addD (pv 3) (pe_op op_mulT pe_int (pe_op op_modD (pe_callTy call_int1 (by rfl) T.z_int bt_int (pa_cons (pv 2) pa_nil)) pe_int))) pa_nil)) pe_int) (pa_cons pe_int pa_nil)))))))))),
    (sims_seq (sims_par (i := 2) (j := 3) (sim_if (simt_test (sim_op sim_lt (sim_var (i := 1)) (sim_cb sim_len (sim_cons (sim_var (i := 0)) sim_nil)))) (sim_cb sim_toInt (sim_cons (sim_op sim_ix (sim_var (i := 0)) (sim_var (i := 1))) sim_nil)) sim_int) (sim_op sim_mulT sim_int (sim_op sim_add (sim_var (i := 1)) sim_int)))
    (sims_seq (sims_for (simi_list (sim_sl (sim_var (i := 0)) simp_no (simp_part sim_int))) (simg_name (i := 4)) (sims_asg (i := 3) (sim_op sim_mod (sim_cb sim_toInt (sim_cons (sim_op sim_add (sim_op sim_add (sim_op sim_mulT (sim_var (i := 3)) sim_int) (sim_op sim_mod (sim_cb sim_toInt (sim_cons (sim_var (i := 4)) sim_nil)) sim_int)) (sim_op sim_mulT sim_int (sim_var (i := 1)))) sim_nil)) sim_int)))
    (sims_seq (sims_asg (i := 5) (sim_if (simt_or (simt_test (sim_op sim_lt (sim_var (i := 2)) sim_int)) (simt_test (sim_op sim_ge (sim_var (i := 2)) (sim_op sim_pow sim_int sim_int)))) (sim_cb sim_abs (sim_cons (sim_var (i := 2)) sim_nil)) sim_int))
    (sims_ret (sim_asBag (sim_lstO (sim_cons (sim_var (i := 5)) (sim_cons (sim_op sim_mod (sim_cb sim_toInt (sim_cons (sim_op sim_add (sim_var (i := 3)) (sim_op sim_mulT sim_int (sim_op sim_mod (sim_cb sim_toInt (sim_cons (sim_var (i := 2)) sim_nil)) sim_int))) sim_nil)) sim_int) (sim_cons sim_int sim_nil))))))))), hw_law_bag A⟩)
theorem ok_law (T : Txt K mg A F) : FnOk P w K mg base (L2.CX P w) 6 F.a_law F.d_law ["_law_cells"] (spOf K 1 (S_law A)) := by
  exact ok_def T.F_law sc_law (by decide) (fun cdv Ar outer s H E hr => ⟨_, w_law A,
    (pss_cons (ps_par3 (i := 1) (j := 2) (l := 3) rfl sc_law.nd rfl rfl rfl (by decide) (by decide) (by decide) rfl rfl rfl (pa_cons (pe_make (E := E0) T.mk_System (ok_System_init T) (hr.mono (by decide)) (by rfl) T.m_System T.b_System_init .nil passN (pa_cons pe_int pa_nil)) (pa_cons (pe_make (E := E0) T.mk_System (ok_System_init T) (hr.mono (by decide)) (by rfl) T.m_System T.b_System_init .nil passN (pa_cons pe_int pa_nil)) (pa_cons (pe_make (E := E0) T.mk_System (ok_System_init T) (hr.mono (by decide)) (by rfl) T.m_System T.b_System_init .nil passN (pa_cons pe_int pa_nil)) pa_nil))) rfl)
    (pss_cons (ps_if (pt_cmpR (op_neD (hu64 hr)) (pe_lst (pa_cons (pe_meth (E := E0) (pv 1) T.cl_System T.me_System_digits (ok_System_digits T) (hr.mono (by decide)) T.b_System_digits .nil passN (pa_cons pe_int pa_nil)) (pa_cons (pe_meth (E := E0) (pv 1) T.cl_System T.me_System_digits (ok_System_digits T) (hr.mono (by decide)) T.b_System_digits .nil passN (pa_cons pe_int pa_nil)) (pa_cons (pe_meth (E := E0) (pv 2) T.cl_System T.me_System_digits (ok_System_digits T) (hr.mono (by decide)) T.b_System_digits .nil passN (pa_cons pe_int pa_nil)) (pa_cons (pe_meth (E := E0) (pv 3) T.cl_System T.me_System_digits (ok_System_digits T) (hr.mono (by decide)) T.b_System_digits .nil passN (pa_cons pe_int pa_nil)) pa_nil))))) (pe_lst (pa_cons (pe_tup pa_nil) (pa_cons (pe_tup (pa_cons pe_int (pa_cons pe_int (pa_cons pe_int pa_nil)))) (pa_cons (pe_tup (pa_cons pe_int (pa_cons pe_int pa_nil))) (pa_cons (pe_tup (pa_cons pe_int (pa_cons pe_int (pa_cons pe_int pa_nil)))) pa_nil))))) (nomark _)) (pss_one (ps_ret pe_bl)) pss_nil)
    (pss_cons (ps_if (pt_cmpR (op_neD (hu64 hr)) (pe_lst (pa_cons (pe_meth (E := E0) (pv 1) T.cl_System T.me_System_units (ok_System_units T) (hr.mono (by decide)) T.b_System_units .nil passN (pa_cons pe_int pa_nil)) (pa_cons (pe_meth (E := E0) (pv 2) T.cl_System T.me_System_units (ok_System_units T) (hr.mono (by decide)) T.b_System_units .nil passN (pa_cons pe_int pa_nil)) (pa_cons (pe_meth (E := E0) (pv 3) T.cl_System T.me_System_units (ok_System_units T) (hr.mono (by decide)) T.b_System_units .nil passN (pa_cons pe_int pa_nil)) pa_nil)))) (pe_lst (pa_cons (pe_tup (pa_cons pe_int (pa_cons pe_int (pa_cons pe_int (pa_cons pe_int (pa_cons pe_int (pa_cons pe_int pa_nil))))))) (pa_cons (pe_tup (pa_cons pe_int (pa_cons pe_int (pa_cons pe_int (pa_cons pe_int pa_nil))))) (pa_cons (pe_tup (pa_cons pe_int (pa_cons pe_int (pa_cons pe_int (pa_cons pe_int pa_nil))))) pa_nil)))) (nomark _)) (pss_one (ps_ret pe_bl)) pss_nil)
    (pss_one (ps_ret (pe_callB (cr_all rfl) (by rfl) T.z_all bt_all (pa_cons (pe_lc rfl sc_law.nd (pi_range1 (by rfl) T.z_range (pa_cons (pe_callB (call_max2 rfl) (by rfl) T.z_max bt_max (pa_cons pe_int (pa_cons (pe_callB (call_min2 rfl) (by rfl) T.z_min bt_min (pa_cons (pe_callB call_len (by rfl) T.z_len bt_len (pa_cons (pv 0) pa_nil)) (pa_cons pe_int pa_nil))) pa_nil))) pa_nil)) (own := [("_law_k", 4)]) (blkOk_by (by kernel_rfl)) (fun _ _ _ _ _ => (pg_name (i := 4) sc_law.nd rfl (by first | exact Or.inl rfl | exact Or.inr rfl))) (fun _ _ _ _ _ => pts_nil) (fun _ _ _ _ _ => (pe_call (E := E0) (ok_law_right T) (hr.mono (by decide)) (by rfl) T.g_law_right T.F_law_right.kp T.b_law_right .nil passN (pa_cons (pe_call (E := E0) (ok_law_bag T) (hr.mono (by decide)) (by rfl) T.g_law_bag T.F_law_bag.kp T.b_law_bag .nil passN (pa_cons (pv 0) (pa_cons (pv 4) pa_nil))) pa_nil)))) pa_nil))))))),
    (sims_seq (sims_par3 (i := 1) (j := 2) (l := 3) (sim_make0 rd0 (sim_cons sim_int sim_nil)) (sim_make0 rd0 (sim_cons sim_int sim_nil)) (sim_make0 rd0 (sim_cons sim_int sim_nil)))
    (sims_seq (sims_if (simt_test (sim_op sim_ne (sim_fz (sim_lstO (sim_cons (sim_meth0 rd0 (sim_var (i := 1)) (sim_cons sim_int sim_nil)) (sim_cons (sim_meth0 rd0 (sim_var (i := 1)) (sim_cons sim_int sim_nil)) (sim_cons (sim_meth0 rd0 (sim_var (i := 2)) (sim_cons sim_int sim_nil)) (sim_cons (sim_meth0 rd0 (sim_var (i := 3)) (sim_cons sim_int sim_nil)) sim_nil)))))) (sim_fz (sim_lstO (sim_cons (sim_tup sim_nil) (sim_cons (sim_tup (sim_cons sim_int (sim_cons sim_int (sim_cons sim_int sim_nil)))) (sim_cons (sim_tup (sim_cons sim_int (sim_cons sim_int sim_nil))) (sim_cons (sim_tup (sim_cons sim_int (sim_cons sim_int (sim_cons sim_int sim_nil)))) sim_nil)))))))) (sims_ret sim_bl) sims_next)
    (sims_seq (sims_if (simt_test (sim_op sim_ne (sim_fz (sim_lstO (sim_cons (sim_meth0 rd0 (sim_var (i := 1)) (sim_cons sim_int sim_nil)) (sim_cons (sim_meth0 rd0 (sim_var (i := 2)) (sim_cons sim_int sim_nil)) (sim_cons (sim_meth0 rd0 (sim_var (i := 3)) (sim_cons sim_int sim_nil)) sim_nil))))) (sim_fz (sim_lstO (sim_cons (sim_tup (sim_cons sim_int (sim_cons sim_int (sim_cons sim_int (sim_cons sim_int (sim_cons sim_int (sim_cons sim_int sim_nil))))))) (sim_cons (sim_tup (sim_cons sim_int (sim_cons sim_int (sim_cons sim_int (sim_cons sim_int sim_nil))))) (sim_cons (sim_tup (sim_cons sim_int (sim_cons sim_int (sim_cons sim_int (sim_cons sim_int sim_nil))))) sim_nil))))))) (sims_ret sim_bl) sims_next)
    (sims_ret (sim_cbl sim_allL (siml_O (simo_lc (simi_rng1 (sim_cons (sim_cb sim_max2 (sim_cons sim_int (sim_cons (sim_cb sim_min2 (sim_cons (sim_cb sim_len (sim_cons (sim_var (i := 0)) sim_nil)) (sim_cons sim_int sim_nil))) sim_nil))) sim_nil)) (simg_name (i := 4)) simt_yes (sim_call0 rd0 (sim_cons (sim_call0 rd0 (sim_cons (sim_var (i := 0)) (sim_cons (sim_var (i := 4)) sim_nil))) sim_nil)) (by decide)))))))), hw_law A⟩)
end
end Lw
namespace Lw
open PySem L2 DL
open PySem.Spec PyProof.Rows
theorem all_mk {l : PySem.W.OpenLaw} {w : World} {K : PySem.W.Frag} {h : Heap} {mg : Str → Option Value} {fa c_System f_is_integer f_is_number f_System_init f_units_up_to f_digits_of f_System_digits f_System_units f_System_eq f_law_draw f_law_units f_law_great f_law_digits f_number_of f_System_is_digits f_System_number f_law_right f_law_bag f_law : Addr} {oc_is_integer kV_is_integer dc_is_integer pm_is_integer cd_is_integer ct_is_integer : Value} {od_is_integer an_is_integer : Option Addr} {sl_is_integer : Array (Option Value)}
    {oc_is_number kV_is_number dc_is_number pm_is_number cd_is_number ct_is_number : Value} {od_is_number an_is_number : Option Addr} {sl_is_number : Array (Option Value)}
    {dt_is_number : Addr} {doc_is_number : Value} {dod_is_number : Option Addr} {dsl_is_number : Array (Option Value)} {dn_is_number : Nat}
    {oc_System_init kV_System_init dc_System_init pm_System_init cd_System_init ct_System_init : Value} {od_System_init an_System_init : Option Addr} {sl_System_init : Array (Option Value)}
    {oc_units_up_to kV_units_up_to dc_units_up_to pm_units_up_to cd_units_up_to ct_units_up_to : Value} {od_units_up_to an_units_up_to : Option Addr} {sl_units_up_to : Array (Option Value)}
    {oc_digits_of kV_digits_of dc_digits_of pm_digits_of cd_digits_of ct_digits_of : Value} {od_digits_of an_digits_of : Option Addr} {sl_digits_of : Array (Option Value)}
    {oc_System_digits kV_System_digits dc_System_digits pm_System_digits cd_System_digits ct_System_digits : Value} {od_System_digits an_System_digits : Option Addr} {sl_System_digits : Array (Option Value)}
    {oc_System_units kV_System_units dc_System_units pm_System_units cd_System_units ct_System_units : Value} {od_System_units an_System_units : Option Addr} {sl_System_units : Array (Option Value)}
    {oc_System_eq kV_System_eq dc_System_eq pm_System_eq cd_System_eq ct_System_eq : Value} {od_System_eq an_System_eq : Option Addr} {sl_System_eq : Array (Option Value)}
    {oc_law_draw kV_law_draw dc_law_draw pm_law_draw cd_law_draw ct_law_draw : Value} {od_law_draw an_law_draw : Option Addr} {sl_law_draw : Array (Option Value)}
    {oc_law_units kV_law_units dc_law_units pm_law_units cd_law_units ct_law_units : Value} {od_law_units an_law_units : Option Addr} {sl_law_units : Array (Option Value)}
    {oc_law_great kV_law_great dc_law_great pm_law_great cd_law_great ct_law_great : Value} {od_law_great an_law_great : Option Addr} {sl_law_great : Array (Option Value)}
    {oc_law_digits kV_law_digits dc_law_digits pm_law_digits cd_law_digits ct_law_digits : Value} {od_law_digits an_law_digits : Option Addr} {sl_law_digits : Array (Option Value)}
    {oc_number_of kV_number_of dc_number_of pm_number_of cd_number_of ct_number_of : Value} {od_number_of an_number_of : Option Addr} {sl_number_of : Array (Option Value)}
    {oc_System_is_digits kV_System_is_digits dc_System_is_digits pm_System_is_digits cd_System_is_digits ct_System_is_digits : Value} {od_System_is_digits an_System_is_digits : Option Addr} {sl_System_is_digits : Array (Option Value)}
    {oc_System_number kV_System_number dc_System_number pm_System_number cd_System_number ct_System_number : Value} {od_System_number an_System_number : Option Addr} {sl_System_number : Array (Option Value)}
    {oc_law_right kV_law_right dc_law_right pm_law_right cd_law_right ct_law_right : Value} {od_law_right an_law_right : Option Addr} {sl_law_right : Array (Option Value)}
    {oc_law_bag kV_law_bag dc_law_bag pm_law_bag cd_law_bag ct_law_bag : Value} {od_law_bag an_law_bag : Option Addr} {sl_law_bag : Array (Option Value)}
    {oc_law kV_law dc_law pm_law cd_law ct_law : Value} {od_law an_law : Option Addr} {sl_law : Array (Option Value)}
    {ccd_System : ClassData}
    {t_MOST_NUMBER : Tok}
    {t_MOST_STEP : Tok}
    {t_MOST_UNITS : Tok} (X : K.In h) (G : h.Ns mainGlobals mg) (hfa : mg "law" = some (.ref fa))
    (g_System : PySem.W.nsIn K mainGlobals "System" = some (some (.ref c_System)))
    (a_is_integer : PySem.W.nsIn K mainGlobals "is_integer" = some (some (.ref f_is_integer)))
    (l_is_integer : K.lookup f_is_integer = some ⟨oc_is_integer, od_is_integer, .func (PySem.W.fnOf "is_integer" "is_integer" (defArgs s_is_integer) (defBody s_is_integer) (defScope s_is_integer) .none kV_is_integer dc_is_integer pm_is_integer an_is_integer cd_is_integer ct_is_integer), sl_is_integer⟩)
    (c_is_integer : PySem.W.codeIn K cd_is_integer "is_integer" = true)
    (k_is_integer : PySem.W.keepIn K (.ref f_is_integer) = true)
    (a_is_number : PySem.W.nsIn K mainGlobals "is_number" = some (some (.ref f_is_number)))
    (l_is_number : K.lookup f_is_number = some ⟨oc_is_number, od_is_number, .func (PySem.W.fnOf "is_number" "is_number" (defArgs s_is_number) (defBody s_is_number) (defScope s_is_number) (.ref dt_is_number) kV_is_number dc_is_number pm_is_number an_is_number cd_is_number ct_is_number), sl_is_number⟩)
    (d_is_number : K.lookup dt_is_number = some ⟨doc_is_number, dod_is_number, .seq #[.none] dn_is_number, dsl_is_number⟩)
    (c_is_number : PySem.W.codeIn K cd_is_number "is_number" = true)
    (k_is_number : PySem.W.keepIn K (.ref f_is_number) = true)
    (a_System_init : PySem.W.findIn K (.ref c_System) "__init__" = some (some (.ref f_System_init)))
    (l_System_init : K.lookup f_System_init = some ⟨oc_System_init, od_System_init, .func (PySem.W.fnOf "__init__" "System.__init__" (defArgs s_System_init) (defBody s_System_init) (defScope s_System_init) .none kV_System_init dc_System_init pm_System_init an_System_init cd_System_init ct_System_init), sl_System_init⟩)
    (c_System_init : PySem.W.codeIn K cd_System_init "System.__init__" = true)
    (k_System_init : PySem.W.keepIn K (.ref f_System_init) = true)
    (i_System_init : PySem.W.isFn K (.ref f_System_init) = true)
    (a_units_up_to : PySem.W.nsIn K mainGlobals "units_up_to" = some (some (.ref f_units_up_to)))
    (l_units_up_to : K.lookup f_units_up_to = some ⟨oc_units_up_to, od_units_up_to, .func (PySem.W.fnOf "units_up_to" "units_up_to" (defArgs s_units_up_to) (defBody s_units_up_to) (defScope s_units_up_to) .none kV_units_up_to dc_units_up_to pm_units_up_to an_units_up_to cd_units_up_to ct_units_up_to), sl_units_up_to⟩)
    (c_units_up_to : PySem.W.codeIn K cd_units_up_to "units_up_to" = true)
    (k_units_up_to : PySem.W.keepIn K (.ref f_units_up_to) = true)
    (a_digits_of : PySem.W.nsIn K mainGlobals "digits_of" = some (some (.ref f_digits_of)))
    (l_digits_of : K.lookup f_digits_of = some ⟨oc_digits_of, od_digits_of, .func (PySem.W.fnOf "digits_of" "digits_of" (defArgs s_digits_of) (defBody s_digits_of) (defScope s_digits_of) .none kV_digits_of dc_digits_of pm_digits_of an_digits_of cd_digits_of ct_digits_of), sl_digits_of⟩)
    (c_digits_of : PySem.W.codeIn K cd_digits_of "digits_of" = true)
    (k_digits_of : PySem.W.keepIn K (.ref f_digits_of) = true)
    (a_System_digits : PySem.W.findIn K (.ref c_System) "digits" = some (some (.ref f_System_digits)))
    (l_System_digits : K.lookup f_System_digits = some ⟨oc_System_digits, od_System_digits, .func (PySem.W.fnOf "digits" "System.digits" (defArgs s_System_digits) (defBody s_System_digits) (defScope s_System_digits) .none kV_System_digits dc_System_digits pm_System_digits an_System_digits cd_System_digits ct_System_digits), sl_System_digits⟩)
    (c_System_digits : PySem.W.codeIn K cd_System_digits "System.digits" = true)
    (k_System_digits : PySem.W.keepIn K (.ref f_System_digits) = true)
    (i_System_digits : PySem.W.isFn K (.ref f_System_digits) = true)
    (a_System_units : PySem.W.findIn K (.ref c_System) "units" = some (some (.ref f_System_units)))
    (l_System_units : K.lookup f_System_units = some ⟨oc_System_units, od_System_units, .func (PySem.W.fnOf "units" "System.units" (defArgs s_System_units) (defBody s_System_units) (defScope s_System_units) .none kV_System_units dc_System_units pm_System_units an_System_units cd_System_units ct_System_units), sl_System_units⟩)
    (c_System_units : PySem.W.codeIn K cd_System_units "System.units" = true)
    (k_System_units : PySem.W.keepIn K (.ref f_System_units) = true)
    (i_System_units : PySem.W.isFn K (.ref f_System_units) = true)
    (a_System_eq : PySem.W.findIn K (.ref c_System) "__eq__" = some (some (.ref f_System_eq)))
    (l_System_eq : K.lookup f_System_eq = some ⟨oc_System_eq, od_System_eq, .func (PySem.W.fnOf "__eq__" "System.__eq__" (defArgs s_System_eq) (defBody s_System_eq) (defScope s_System_eq) .none kV_System_eq dc_System_eq pm_System_eq an_System_eq cd_System_eq ct_System_eq), sl_System_eq⟩)
    (c_System_eq : PySem.W.codeIn K cd_System_eq "System.__eq__" = true)
    (k_System_eq : PySem.W.keepIn K (.ref f_System_eq) = true)
    (i_System_eq : PySem.W.isFn K (.ref f_System_eq) = true)
    (a_law_draw : PySem.W.nsIn K mainGlobals "_law_draw" = some (some (.ref f_law_draw)))
    (l_law_draw : K.lookup f_law_draw = some ⟨oc_law_draw, od_law_draw, .func (PySem.W.fnOf "_law_draw" "_law_draw" (defArgs s_law_draw) (defBody s_law_draw) (defScope s_law_draw) .none kV_law_draw dc_law_draw pm_law_draw an_law_draw cd_law_draw ct_law_draw), sl_law_draw⟩)
    (c_law_draw : PySem.W.codeIn K cd_law_draw "_law_draw" = true)
    (k_law_draw : PySem.W.keepIn K (.ref f_law_draw) = true)
    (a_law_units : PySem.W.nsIn K mainGlobals "_law_units" = some (some (.ref f_law_units)))
    (l_law_units : K.lookup f_law_units = some ⟨oc_law_units, od_law_units, .func (PySem.W.fnOf "_law_units" "_law_units" (defArgs s_law_units) (defBody s_law_units) (defScope s_law_units) .none kV_law_units dc_law_units pm_law_units an_law_units cd_law_units ct_law_units), sl_law_units⟩)
    (c_law_units : PySem.W.codeIn K cd_law_units "_law_units" = true)
    (k_law_units : PySem.W.keepIn K (.ref f_law_units) = true)
    (a_law_great : PySem.W.nsIn K mainGlobals "_law_great" = some (some (.ref f_law_great)))
    (l_law_great : K.lookup f_law_great = some ⟨oc_law_great, od_law_great, .func (PySem.W.fnOf "_law_great" "_law_great" (defArgs s_law_great) (defBody s_law_great) (defScope s_law_great) .none kV_law_great dc_law_great pm_law_great an_law_great cd_law_great ct_law_great), sl_law_great⟩)
    (c_law_great : PySem.W.codeIn K cd_law_great "_law_great" = true)
    (k_law_great : PySem.W.keepIn K (.ref f_law_great) = true)
    (a_law_digits : PySem.W.nsIn K mainGlobals "_law_digits" = some (some (.ref f_law_digits)))
    (l_law_digits : K.lookup f_law_digits = some ⟨oc_law_digits, od_law_digits, .func (PySem.W.fnOf "_law_digits" "_law_digits" (defArgs s_law_digits) (defBody s_law_digits) (defScope s_law_digits) .none kV_law_digits dc_law_digits pm_law_digits an_law_digits cd_law_digits ct_law_digits), sl_law_digits⟩)
    (c_law_digits : PySem.W.codeIn K cd_law_digits "_law_digits" = true)
    (k_law_digits : PySem.W.keepIn K (.ref f_law_digits) = true)
    (a_number_of : PySem.W.nsIn K mainGlobals "number_of" = some (some (.ref f_number_of)))
    (l_number_of : K.lookup f_number_of = some ⟨oc_number_of, od_number_of, .func (PySem.W.fnOf "number_of" "number_of" (defArgs s_number_of) (defBody s_number_of) (defScope s_number_of) .none kV_number_of dc_number_of pm_number_of an_number_of cd_number_of ct_number_of), sl_number_of⟩)
    (c_number_of : PySem.W.codeIn K cd_number_of "number_of" = true)
    (k_number_of : PySem.W.keepIn K (.ref f_number_of) = true)
    (a_System_is_digits : PySem.W.findIn K (.ref c_System) "is_digits" = some (some (.ref f_System_is_digits)))
    (l_System_is_digits : K.lookup f_System_is_digits = some ⟨oc_System_is_digits, od_System_is_digits, .func (PySem.W.fnOf "is_digits" "System.is_digits" (defArgs s_System_is_digits) (defBody s_System_is_digits) (defScope s_System_is_digits) .none kV_System_is_digits dc_System_is_digits pm_System_is_digits an_System_is_digits cd_System_is_digits ct_System_is_digits), sl_System_is_digits⟩)
    (c_System_is_digits : PySem.W.codeIn K cd_System_is_digits "System.is_digits" = true)
    (k_System_is_digits : PySem.W.keepIn K (.ref f_System_is_digits) = true)
    (i_System_is_digits : PySem.W.isFn K (.ref f_System_is_digits) = true)
    (a_System_number : PySem.W.findIn K (.ref c_System) "number" = some (some (.ref f_System_number)))
    (l_System_number : K.lookup f_System_number = some ⟨oc_System_number, od_System_number, .func (PySem.W.fnOf "number" "System.number" (defArgs s_System_number) (defBody s_System_number) (defScope s_System_number) .none kV_System_number dc_System_number pm_System_number an_System_number cd_System_number ct_System_number), sl_System_number⟩)
    (c_System_number : PySem.W.codeIn K cd_System_number "System.number" = true)
    (k_System_number : PySem.W.keepIn K (.ref f_System_number) = true)
    (i_System_number : PySem.W.isFn K (.ref f_System_number) = true)
    (a_law_right : PySem.W.nsIn K mainGlobals "_law_right" = some (some (.ref f_law_right)))
    (l_law_right : K.lookup f_law_right = some ⟨oc_law_right, od_law_right, .func (PySem.W.fnOf "_law_right" "_law_right" (defArgs s_law_right) (defBody s_law_right) (defScope s_law_right) .none kV_law_right dc_law_right pm_law_right an_law_right cd_law_right ct_law_right), sl_law_right⟩)
    (c_law_right : PySem.W.codeIn K cd_law_right "_law_right" = true)
    (k_law_right : PySem.W.keepIn K (.ref f_law_right) = true)
    (a_law_bag : PySem.W.nsIn K mainGlobals "_law_bag" = some (some (.ref f_law_bag)))
    (l_law_bag : K.lookup f_law_bag = some ⟨oc_law_bag, od_law_bag, .func (PySem.W.fnOf "_law_bag" "_law_bag" (defArgs s_law_bag) (defBody s_law_bag) (defScope s_law_bag) .none kV_law_bag dc_law_bag pm_law_bag an_law_bag cd_law_bag ct_law_bag), sl_law_bag⟩)
    (c_law_bag : PySem.W.codeIn K cd_law_bag "_law_bag" = true)
    (k_law_bag : PySem.W.keepIn K (.ref f_law_bag) = true)
    (a_law : PySem.W.nsIn K mainGlobals "law" = some (some (.ref f_law)))
    (l_law : K.lookup f_law = some ⟨oc_law, od_law, .func (PySem.W.fnOf "law" "law" (defArgs s_law) (defBody s_law) (defScope s_law) .none kV_law dc_law pm_law an_law cd_law ct_law), sl_law⟩)
    (c_law : PySem.W.codeIn K cd_law "law" = true)
    (k_law : PySem.W.keepIn K (.ref f_law) = true)
    (pg_System : PySem.W.plainGet K c_System Str.empty = true)
    (hd_System : PySem.W.hasDictIn K c_System = true)
    (po_System : PySem.W.plainOver K c_System = true)
    (sa_System : PySem.W.findIn K (.ref c_System) "__setattr__" = some (some (.builtin "object.__setattr__")))
    (mk_System : PySem.W.makesIn K c_System = true)
    (kc_System : PySem.W.keepIn K (.ref c_System) = true)
    (ha_System : PySem.W.findIn K (.ref c_System) "__class__" = some (some (.builtin "object.__class__")))
    (ci_System : PySem.W.clsIn K c_System = some ccd_System)
    (cm_System : ccd_System.mro = mroL [c_System] ["object"])
    (tp_System : PySem.W.typeIn K (.ref c_System) = some (.type "type"))
    (oc_hn : PySem.W.specialIn K (.builtin "object.__class__") "__get__" = some (some (.builtin "getset_descriptor.__get__")))
    (oc_tk : PySem.W.takesIn K (.builtin "object.__class__") = some true)
    (ne_System : PySem.W.findIn K (.ref c_System) "__ne__" = some (some (.builtin "object.__ne__")))
    (na_System_step : PySem.W.findIn K (.ref c_System) "step" = some none)
    (z_abs : PySem.W.nsIn K mainGlobals "abs" = some none)
    (z_all : PySem.W.nsIn K mainGlobals "all" = some none)
    (z_bool : PySem.W.nsIn K mainGlobals "bool" = some none)
    (z_int : PySem.W.nsIn K mainGlobals "int" = some none)
    (z_isinstance : PySem.W.nsIn K mainGlobals "isinstance" = some none)
    (z_len : PySem.W.nsIn K mainGlobals "len" = some none)
    (z_max : PySem.W.nsIn K mainGlobals "max" = some none)
    (z_min : PySem.W.nsIn K mainGlobals "min" = some none)
    (z_range : PySem.W.nsIn K mainGlobals "range" = some none)
    (z_tuple : PySem.W.nsIn K mainGlobals "tuple" = some none)
    (v_MOST_NUMBER : PySem.W.nsIn K mainGlobals "MOST_NUMBER" = some (some (.int 10000000000000000000000000000000000000000 t_MOST_NUMBER)))
    (v_MOST_STEP : PySem.W.nsIn K mainGlobals "MOST_STEP" = some (some (.int 3 t_MOST_STEP)))
    (v_MOST_UNITS : PySem.W.nsIn K mainGlobals "MOST_UNITS" = some (some (.int 200 t_MOST_UNITS))) :
    ∃ fd : FuncData, (∀ (s : Shared) (v : Value), BindsTo s fd ⟨[v], []⟩ [("_law_cells", v)]) ∧ ∀ base : Heap, K.In base → base.Ns mainGlobals mg → FnOk l.prog w K mg base (L2.CX l.prog w) 6 fa fd ["_law_cells"] (spOf K 1 sLawD) := by
  have e := hfa.symm.trans (PySem.W.mg_of X G a_law)
  cases e
  have F_is_integer := fun_mk (st := s_is_integer) l_is_integer c_is_integer k_is_integer
  have b_is_integer := F_is_integer.binds (ps := ["value"]) fun _ _ _ _ _ _ us hl => match us, hl with | [_], _ => rfl
  have F_is_number : FunD K "is_number" "is_number" (defArgs s_is_number) (defBody s_is_number) (defScope s_is_number) [.non] [] f_is_number (PySem.W.fnOf "is_number" "is_number" (defArgs s_is_number) (defBody s_is_number) (defScope s_is_number) (.ref dt_is_number) kV_is_number dc_is_number pm_is_number an_is_number cd_is_number ct_is_number) := ⟨⟨_, _, _, _, _, _, _, _, _, _, rfl, l_is_number, c_is_number, .inr ⟨by simp, _, _, [.none], _, rfl, d_is_number, rfl, (.cons rfl .nil)⟩, .inl rfl⟩, k_is_number⟩
  have b_is_number : Binds K (PySem.W.fnOf "is_number" "is_number" (defArgs s_is_number) (defBody s_is_number) (defScope s_is_number) (.ref dt_is_number) kV_is_number dc_is_number pm_is_number an_is_number cd_is_number ct_is_number) ["value", "most"] [] := by
    obtain ⟨ds, hv, b⟩ := F_is_number.binds1 (ps := ["value", "most"]) 2 1 (by simp) rfl (fun T kV doc pm an cdv ct us its hu hi => match us, its, hu, hi with | [_, _], [_], _, _ => ⟨_, rfl, rfl⟩)
    cases hv
    exact b
  have F_System_init := fun_mk (st := s_System_init) l_System_init c_System_init k_System_init
  have b_System_init := F_System_init.binds (ps := ["self", "step"]) fun _ _ _ _ _ _ us hl => match us, hl with | [_, _], _ => rfl
  have F_units_up_to := fun_mk (st := s_units_up_to) l_units_up_to c_units_up_to k_units_up_to
  have b_units_up_to := F_units_up_to.binds (ps := ["step", "number"]) fun _ _ _ _ _ _ us hl => match us, hl with | [_, _], _ => rfl
  have F_digits_of := fun_mk (st := s_digits_of) l_digits_of c_digits_of k_digits_of
  have b_digits_of := F_digits_of.binds (ps := ["step", "number"]) fun _ _ _ _ _ _ us hl => match us, hl with | [_, _], _ => rfl
  have F_System_digits := fun_mk (st := s_System_digits) l_System_digits c_System_digits k_System_digits
  have b_System_digits := F_System_digits.binds (ps := ["self", "number"]) fun _ _ _ _ _ _ us hl => match us, hl with | [_, _], _ => rfl
  have F_System_units := fun_mk (st := s_System_units) l_System_units c_System_units k_System_units
  have b_System_units := F_System_units.binds (ps := ["self", "count"]) fun _ _ _ _ _ _ us hl => match us, hl with | [_, _], _ => rfl
  have F_System_eq := fun_mk (st := s_System_eq) l_System_eq c_System_eq k_System_eq
  have b_System_eq := F_System_eq.binds (ps := ["self", "other"]) fun _ _ _ _ _ _ us hl => match us, hl with | [_, _], _ => rfl
  have F_law_draw := fun_mk (st := s_law_draw) l_law_draw c_law_draw k_law_draw
  have b_law_draw := F_law_draw.binds (ps := ["_law_bag_here", "_law_wide"]) fun _ _ _ _ _ _ us hl => match us, hl with | [_, _], _ => rfl
  have F_law_units := fun_mk (st := s_law_units) l_law_units c_law_units k_law_units
  have b_law_units := F_law_units.binds (ps := ["_law_level", "_law_many"]) fun _ _ _ _ _ _ us hl => match us, hl with | [_, _], _ => rfl
  have F_law_great := fun_mk (st := s_law_great) l_law_great c_law_great k_law_great
  have b_law_great := F_law_great.binds (ps := ["_law_bag_here", "_law_level"]) fun _ _ _ _ _ _ us hl => match us, hl with | [_, _], _ => rfl
  have F_law_digits := fun_mk (st := s_law_digits) l_law_digits c_law_digits k_law_digits
  have b_law_digits := F_law_digits.binds (ps := ["_law_level", "_law_amount"]) fun _ _ _ _ _ _ us hl => match us, hl with | [_, _], _ => rfl
  have F_number_of := fun_mk (st := s_number_of) l_number_of c_number_of k_number_of
  have b_number_of := F_number_of.binds (ps := ["step", "digits"]) fun _ _ _ _ _ _ us hl => match us, hl with | [_, _], _ => rfl
  have F_System_is_digits := fun_mk (st := s_System_is_digits) l_System_is_digits c_System_is_digits k_System_is_digits
  have b_System_is_digits := F_System_is_digits.binds (ps := ["self", "value"]) fun _ _ _ _ _ _ us hl => match us, hl with | [_, _], _ => rfl
  have F_System_number := fun_mk (st := s_System_number) l_System_number c_System_number k_System_number
  have b_System_number := F_System_number.binds (ps := ["self", "digits"]) fun _ _ _ _ _ _ us hl => match us, hl with | [_, _], _ => rfl
  have F_law_right := fun_mk (st := s_law_right) l_law_right c_law_right k_law_right
  have b_law_right := F_law_right.binds (ps := ["_law_bag_here"]) fun _ _ _ _ _ _ us hl => match us, hl with | [_], _ => rfl
  have F_law_bag := fun_mk (st := s_law_bag) l_law_bag c_law_bag k_law_bag
  have b_law_bag := F_law_bag.binds (ps := ["_law_cells", "_law_k"]) fun _ _ _ _ _ _ us hl => match us, hl with | [_, _], _ => rfl
  have F_law := fun_mk (st := s_law) l_law c_law k_law
  have b_law := F_law.binds (ps := ["_law_cells"]) fun _ _ _ _ _ _ us hl => match us, hl with | [_], _ => rfl
  have kb_System_units_1_count := kb_perm (ps := ["self", "count"]) F_System_units 1 ["count"] [0] fun _ _ _ _ _ _ us ws h1 h2 => match us, ws, h1, h2 with | [_], [_], _, _ => rfl
  have kb_System_digits_1_number := kb_perm (ps := ["self", "number"]) F_System_digits 1 ["number"] [0] fun _ _ _ _ _ _ us ws h1 h2 => match us, ws, h1, h2 with | [_], [_], _, _ => rfl
  have kb_System_init_1_step := kb_perm (ps := ["self", "step"]) F_System_init 1 ["step"] [0] fun _ _ _ _ _ _ us ws h1 h2 => match us, ws, h1, h2 with | [_], [_], _, _ => rfl
  have kb_System_number_1_digits := kb_perm (ps := ["self", "digits"]) F_System_number 1 ["digits"] [0] fun _ _ _ _ _ _ us ws h1 h2 => match us, ws, h1, h2 with | [_], [_], _, _ => rfl
  have kb_System_is_digits_1_value := kb_perm (ps := ["self", "value"]) F_System_is_digits 1 ["value"] [0] fun _ _ _ _ _ _ us ws h1 h2 => match us, ws, h1, h2 with | [_], [_], _, _ => rfl
  have cl_System : Cls K c_System := ⟨pg_System, hd_System, po_System, sa_System⟩
  have om_System : OwnM K c_System [c_System] ["object"] := ⟨⟨_, ci_System, cm_System⟩, rfl, by decide, by decide, tp_System⟩
  have ty : TyOk K (cdOf [(c_System, [c_System])]) := tyOk_of fun p hp => by
    simp only [List.mem_cons, List.not_mem_nil, or_false] at hp
    rcases hp with rfl
    · exact ⟨⟨cl_System, ha_System, oc_hn, oc_tk, om_System.object⟩, _, om_System⟩
  have T : Txt K mg ⟨0, 0, 0, 0, c_System⟩ ⟨f_is_integer, _, f_is_number, _, f_System_init, _, f_units_up_to, _, f_digits_of, _, f_System_digits, _, f_System_units, _, f_System_eq, _, f_law_draw, _, f_law_units, _, f_law_great, _, f_law_digits, _, f_number_of, _, f_System_is_digits, _, f_System_number, _, f_law_right, _, f_law_bag, _, fa, _⟩ := {
    F_is_integer := F_is_integer,
    b_is_integer := b_is_integer,
    g_is_integer := PySem.W.mg_of X G a_is_integer,
    F_is_number := F_is_number,
    b_is_number := b_is_number,
    g_is_number := PySem.W.mg_of X G a_is_number,
    F_System_init := F_System_init,
    b_System_init := b_System_init,
    mk_System := ⟨mk_System, a_System_init, i_System_init, kc_System⟩,
    F_units_up_to := F_units_up_to,
    b_units_up_to := b_units_up_to,
    g_units_up_to := PySem.W.mg_of X G a_units_up_to,
    F_digits_of := F_digits_of,
    b_digits_of := b_digits_of,
    g_digits_of := PySem.W.mg_of X G a_digits_of,
    F_System_digits := F_System_digits,
    b_System_digits := b_System_digits,
    me_System_digits := ⟨a_System_digits, i_System_digits, k_System_digits⟩,
    F_System_units := F_System_units,
    b_System_units := b_System_units,
    me_System_units := ⟨a_System_units, i_System_units, k_System_units⟩,
    F_System_eq := F_System_eq,
    b_System_eq := b_System_eq,
    me_System_eq := ⟨a_System_eq, i_System_eq, k_System_eq⟩,
    F_law_draw := F_law_draw,
    b_law_draw := b_law_draw,
    g_law_draw := PySem.W.mg_of X G a_law_draw,
    F_law_units := F_law_units,
    b_law_units := b_law_units,
    g_law_units := PySem.W.mg_of X G a_law_units,
    F_law_great := F_law_great,
    b_law_great := b_law_great,
    g_law_great := PySem.W.mg_of X G a_law_great,
    F_law_digits := F_law_digits,
    b_law_digits := b_law_digits,
    g_law_digits := PySem.W.mg_of X G a_law_digits,
    F_number_of := F_number_of,
    b_number_of := b_number_of,
    g_number_of := PySem.W.mg_of X G a_number_of,
    F_System_is_digits := F_System_is_digits,
    b_System_is_digits := b_System_is_digits,
    me_System_is_digits := ⟨a_System_is_digits, i_System_is_digits, k_System_is_digits⟩,
    F_System_number := F_System_number,
    b_System_number := b_System_number,
    me_System_number := ⟨a_System_number, i_System_number, k_System_number⟩,
    F_law_right := F_law_right,
    b_law_right := b_law_right,
    g_law_right := PySem.W.mg_of X G a_law_right,
    F_law_bag := F_law_bag,
    b_law_bag := b_law_bag,
    g_law_bag := PySem.W.mg_of X G a_law_bag,
    F_law := F_law,
    b_law := b_law,
    g_law := PySem.W.mg_of X G a_law,
    kb_System_units_1_count := kb_System_units_1_count,
    kb_System_digits_1_number := kb_System_digits_1_number,
    kb_System_init_1_step := kb_System_init_1_step,
    kb_System_number_1_digits := kb_System_number_1_digits,
    kb_System_is_digits_1_value := kb_System_is_digits_1_value,
    cl_System := cl_System,
    m_System := PySem.W.mg_of X G g_System,
    ne_System := ne_System,
    na_System_step := na_System_step,
    z_abs := PySem.W.mg_none_of X G z_abs,
    z_all := PySem.W.mg_none_of X G z_all,
    z_bool := PySem.W.mg_none_of X G z_bool,
    z_int := PySem.W.mg_none_of X G z_int,
    z_isinstance := PySem.W.mg_none_of X G z_isinstance,
    z_len := PySem.W.mg_none_of X G z_len,
    z_max := PySem.W.mg_none_of X G z_max,
    z_min := PySem.W.mg_none_of X G z_min,
    z_range := PySem.W.mg_none_of X G z_range,
    z_tuple := PySem.W.mg_none_of X G z_tuple,
    v_MOST_NUMBER := ⟨_, PySem.W.mg_of X G v_MOST_NUMBER, ⟨_, rfl⟩⟩,
    v_MOST_STEP := ⟨_, PySem.W.mg_of X G v_MOST_STEP, ⟨_, rfl⟩⟩,
    v_MOST_UNITS := ⟨_, PySem.W.mg_of X G v_MOST_UNITS, ⟨_, rfl⟩⟩,
    ty := ty }
  exact ⟨_, fun s v => .of_eq rfl, fun base _ _ => ok_law T⟩
end Lw
open PySem PySem.W PyProof.Rows
set_option maxRecDepth 100000 in
set_option maxHeartbeats 0 in
theorem PySem.Challenge.cw_goldenrows_k01_digits_and_units_holds : PySem.Challenge.rw_goldenrows_k01_digits_and_units.Holds := by
  w_on; o_law; k_head; (case hw => w_witness2)
  k_fill
  refine DL.walkD (l := PySem.Challenge.rw_goldenrows_k01_digits_and_units) (k := 6) (x := "_law_cells") rfl rfl ⟨rfl, by decide, by decide⟩ (fun w h Y => PySem.W.kIn_of Y) ?F
  case F =>
    intro w mg fa h KX G hmg
    refine' Lw.all_mk KX G hmg ?g_System ?a_is_integer ?l_is_integer ?c_is_integer ?k_is_integer ?a_is_number ?l_is_number ?d_is_number ?c_is_number ?k_is_number ?a_System_init ?l_System_init ?c_System_init ?k_System_init ?i_System_init ?a_units_up_to ?l_units_up_to ?c_units_up_to ?k_units_up_to ?a_digits_of ?l_digits_of ?c_digits_of ?k_digits_of ?a_System_digits ?l_System_digits ?c_System_digits ?k_System_digits ?i_System_digits ?a_System_units ?l_System_units ?c_System_units ?k_System_units ?i_System_units ?a_System_eq ?l_System_eq ?c_System_eq ?k_System_eq ?i_System_eq ?a_law_draw ?l_law_draw ?c_law_draw ?k_law_draw ?a_law_units ?l_law_units ?c_law_units ?k_law_units ?a_law_great ?l_law_great ?c_law_great ?k_law_great ?a_law_digits ?l_law_digits ?c_law_digits ?k_law_digits ?a_number_of ?l_number_of ?c_number_of ?k_number_of ?a_System_is_digits ?l_System_is_digits ?c_System_is_digits ?k_System_is_digits ?i_System_is_digits ?a_System_number ?l_System_number ?c_System_number ?k_System_number ?i_System_number ?a_law_right ?l_law_right ?c_law_right ?k_law_right ?a_law_bag ?l_law_bag ?c_law_bag ?k_law_bag ?a_law ?l_law ?c_law ?k_law ?pg_System ?hd_System ?po_System ?sa_System ?mk_System ?kc_System ?ha_System ?ci_System ?cm_System ?tp_System ?oc_hn ?oc_tk ?ne_System ?na_System_step ?z_abs ?z_all ?z_bool ?z_int ?z_isinstance ?z_len ?z_max ?z_min ?z_range ?z_tuple ?v_MOST_NUMBER ?v_MOST_STEP ?v_MOST_UNITS
    (case g_System => k_is)
    (case a_is_integer => k_is)
    (case l_is_integer => k_is)
    (case c_is_integer => k_is)
    (case k_is_integer => k_is)
    (case a_is_number => k_is)
    (case l_is_number => k_is)
    (case d_is_number => k_is)
    (case c_is_number => k_is)
    (case k_is_number => k_is)
    (case a_System_init => k_is)
    (case l_System_init => k_is)
    (case c_System_init => k_is)
    (case k_System_init => k_is)
    (case i_System_init => k_is)
    (case a_units_up_to => k_is)
    (case l_units_up_to => k_is)
    (case c_units_up_to => k_is)
    (case k_units_up_to => k_is)
    (case a_digits_of => k_is)
    (case l_digits_of => k_is)
    (case c_digits_of => k_is)
    (case k_digits_of => k_is)
    (case a_System_digits => k_is)
    (case l_System_digits => k_is)
    (case c_System_digits => k_is)
    (case k_System_digits => k_is)
    (case i_System_digits => k_is)
    (case a_System_units => k_is)
    (case l_System_units => k_is)
    (case c_System_units => k_is)
    (case k_System_units => k_is)
    (case i_System_units => k_is)
    (case a_System_eq => k_is)
    (case l_System_eq => k_is)
    (case c_System_eq => k_is)
    (case k_System_eq => k_is)
    (case i_System_eq => k_is)
    (case a_law_draw => k_is)
    (case l_law_draw => k_is)
    (case c_law_draw => k_is)
    (case k_law_draw => k_is)
    (case a_law_units => k_is)
    (case l_law_units => k_is)
    (case c_law_units => k_is)
    (case k_law_units => k_is)
    (case a_law_great => k_is)
    (case l_law_great => k_is)
    (case c_law_great => k_is)
    (case k_law_great => k_is)
    (case a_law_digits => k_is)
    (case l_law_digits => k_is)
    (case c_law_digits => k_is)
    (case k_law_digits => k_is)
    (case a_number_of => k_is)
    (case l_number_of => k_is)
    (case c_number_of => k_is)
    (case k_number_of => k_is)
    (case a_System_is_digits => k_is)
    (case l_System_is_digits => k_is)
    (case c_System_is_digits => k_is)
    (case k_System_is_digits => k_is)
    (case i_System_is_digits => k_is)
    (case a_System_number => k_is)
    (case l_System_number => k_is)
    (case c_System_number => k_is)
    (case k_System_number => k_is)
    (case i_System_number => k_is)
    (case a_law_right => k_is)
    (case l_law_right => k_is)
    (case c_law_right => k_is)
    (case k_law_right => k_is)
    (case a_law_bag => k_is)
    (case l_law_bag => k_is)
    (case c_law_bag => k_is)
    (case k_law_bag => k_is)
    (case a_law => k_is)
    (case l_law => k_is)
    (case c_law => k_is)
    (case k_law => k_is)
    (case pg_System => k_is)
    (case hd_System => k_is)
    (case po_System => k_is)
    (case sa_System => k_is)
    (case mk_System => k_is)
    (case kc_System => k_is)
    (case ha_System => k_is)
    (case ci_System => k_is)
    (case cm_System => rfl)
    (case tp_System => k_is)
    (case oc_hn => k_is)
    (case oc_tk => k_is)
    (case ne_System => k_is)
    (case na_System_step => k_is)
    (case z_abs => k_is)
    (case z_all => k_is)
    (case z_bool => k_is)
    (case z_int => k_is)
    (case z_isinstance => k_is)
    (case z_len => k_is)
    (case z_max => k_is)
    (case z_min => k_is)
    (case z_range => k_is)
    (case z_tuple => k_is)
    (case v_MOST_NUMBER => k_is)
    (case v_MOST_STEP => k_is)
    (case v_MOST_UNITS => k_is)
