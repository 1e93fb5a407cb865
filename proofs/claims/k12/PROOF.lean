import PyProof.Rows.All
import Wide.All
import OpenK.AllK
import Wide.FinOn
import HandS.ForMost
import HandS.ForExc
import HandS.Wide
import HandS.IsInst
import HandS.TupAny
import HandS.TupMul
import HandS.Style
import HandS.Defaults
import HandS.MakeKw
import HandS.MakeKwOnly
import HandS.Lambda
import HandS.EndTab
import HandS.HotCalls
import HandS.ExcInit
import HandS.ExcField
import HandS.ExcIs
import HandS.TryOnly
import KE.KTryMore
import HandS.NestedK
import KE.KeyNested
import PyProof.DictRoadsH
import HandS.ListEq
import HandS.Star
import HandS.Conv
import HandS.GenList
import HandS.GenYield
import HandS.Strs
import KE.KExcIs
import KE.KNestM
import KE.KTupSum
import KE.GoesMore
import HandS.DictComp
import HandS.NoneIn
import HandS.ClsMeth
import HandS.TupLe
import PyProof.NeKinds
import HandS.DictSubView
import HandS.ReCall
import HandS.SetFor
import HandS.Set
import PyProof.CollectStr
import HandS.Zip
import PyProof.Rows.TupDisplay
import HandS.TupLen
import HandS.SetBool
import KE.GoesEnum
import HandS.Replace
import PyProof.StrLawsFirst
import KE.KExcInit
import HandS.ExcValue
import HandS.ExcOwn
import KE.HD2
import KE.HD3
import OpenK.KWalk
import Open.Tops
import HandS.Head2
import PySem.Challenge.RW_goldenrows_k12_errors_and_limits
set_option Elab.async false
set_option linter.all false
set_option maxRecDepth 100000
set_option maxHeartbeats 0
/-! DL1: data-level readings over HandS. Values as plain data (D), slots as SV; F: the part of the heap that never changes any more. -/
namespace DL
open PySem L2

/-- the tables of code objects that the program writes (each with the name of the lambdas of its def; or with those of its inner defs, by place); the world -/
class Tbl where
  T : List (Addr × Str)
  N : List NdefX.NTab := []
  w : World
/-- an inner def: its statement, its name, its qualname, the names that it captures -/
structure NS where
  st : Stmt
  name : Str
  qual : Str
  fr : List Str
/-- a lambda without free names: its qualname, its parts -/
structure LS where
  qual : Str
  ps : Arguments
  body : Expr
  sc : Scope
/-- the object at f is that lambda -/
def LamO (f : Addr) (L : LS) (c : Addr) : HO := .ext fun h => ∃ pm ctv : Value, h.get? f = some (PySem.W.kla_obj "<lambda>" L.qual L.ps L.body L.sc [] pm c ctv)
abbrev NS.nf (n : NS) (cl : List (Str × Addr)) (c : Addr) : NdefX.NF := NdefX.NF.of n.st n.name n.qual cl c
inductive D where
  | non | bl (b : Bool) | int (i : Int) | str (x : Str) | ty (n : String)
  | tup (l : List D) | lst (l : List D) | ins (C : Addr) (fs : List (Str × D)) | obj (a : Addr) | scr (ns : List Int) | bag (a : Addr) | dct (fs : List (Str × D))
  | tux (l : List D) | exc (C : Addr) (fs : List (Str × D)) | fnv (n : NS) (caps : List D)
  | dci (fs : List (Int × D)) | dcn (fs : List (NestedKey × D)) | lmv (L : LS)

/-- a bag of the law: a list of three numbers, from 0 on -/
def BagP (a : Addr) (h : Heap) : Prop := ∃ (p q r : Nat) (t u v : Tok) (n : Nat), h.get? a = some { cls := .type "list", data := .seq #[.int (p : Int) t, .int (q : Int) u, .int (r : Int) v] n }
def BagO (a : Addr) : HO := .ext (BagP a)

/-- the own dict of an exception (it may have none) -/
def XdOk (F : Hp) : Option Addr → List (Str × V) → Prop
  | none, xs => xs = []
  | some dx, xs => F dx = some (exd dx xs)
theorem XdOk.mono {F F' : Hp} (e : Same F F') : ∀ {d : Option Addr} {xs : List (Str × V)}, XdOk F d xs → XdOk F' d xs
  | none, _, h => h
  | some _, _, h => e _ _ h
/-- a cell that is known to its object -/
def Unk : HO := .ext fun _ => True
/-- what the captured cells hold -/
structure CapOk (F : Hp) (cl : List (Str × Addr)) (fr : List Str) (ws : List V) : Prop where
  len : ws.length = fr.length
  all : ∀ y c, cl.lookup y = some c → y ∈ fr
  inj : ∀ x y c, cl.lookup x = some c → cl.lookup y = some c → x = y
  has : ∀ (i : Nat) (y : Str), fr[i]? = some y → ∃ (c : Addr) (o : Obj) (u : Value) (v : V), cl.lookup y = some c ∧ F c = some (.frz o Unk) ∧ o.data = .cell (some u) ∧ ws[i]? = some v ∧ RelV v u
theorem CapOk.mono {F F' : Hp} {cl : List (Str × Addr)} {fr : List Str} {ws : List V} (e : Same F F') (h : CapOk F cl fr ws) : CapOk F' cl fr ws :=
  ⟨h.len, h.all, h.inj, fun i y hi => let ⟨c, o, u, v, h1, h2, h3⟩ := h.has i y hi; ⟨c, o, u, v, h1, e _ _ h2, h3⟩⟩
/-- a dict with texts as keys -/
abbrev keyed (xs : List (Str × V)) : List (Key × V) := xs.map fun p => (Sum.inr p.1, p.2)
/-- .. with ints -/
abbrev keyedI (ks : List Int) (xs : List V) : List (Key × V) := (ks.map Sum.inl).zip xs
/-- a dict whose keys are nested tuples: its keys, where they lie, its values -/
structure DnR (w : World) (o : Obj) (ks : List (NestedKey × Addr)) (xs : List V) : Prop where
  ex : o.ExactDict
  dt : ∃ es ep us, o.data = .dict es ep ∧ Vals xs us ∧ es.toList = (ks.zip us).map fun p => (⟨p.1.1.hash w, .ref p.1.2, p.2⟩ : DictEntry)
  len : ks.length = xs.length
  nd : (ks.map (·.1)).Nodup
  big : xs.length ≤ sizeLine
def dnP (w : World) (a : Addr) (ks : List (NestedKey × Addr)) (xs : List V) (h : Heap) : Prop := ∃ o, h.get? a = some o ∧ (a == sysModules) = false ∧ DnR w o ks xs
def DctN (w : World) (a : Addr) (ks : List (NestedKey × Addr)) (xs : List V) : HO := .ext (dnP w a ks xs)
mutual
/-- the value is the key -/
inductive NkV (K : PySem.W.Frag) (F : Hp) : NestedKey → V → Prop
  | non : NkV K F .none .non
  | bl (b : Bool) : NkV K F (.num (if b = true then 1 else 0)) (.bl b)
  | int (i : Int) : NkV K F (.num i) (.int i)
  | str (x : Str) : NkV K F (.text x) (.str x)
  | tup {a : Addr} {xs : List V} {ks : List NestedKey} : SqT K F a xs → NkA K F ks xs → NkV K F (.tup ks) (.ref a)
inductive NkA (K : PySem.W.Frag) (F : Hp) : List NestedKey → List V → Prop
  | nil : NkA K F [] []
  | cons {k : NestedKey} {v : V} {ks : List NestedKey} {vs : List V} : NkV K F k v → NkA K F ks vs → NkA K F (k :: ks) (v :: vs)
end
/-- the keys lie there -/
def KeysAt (K : PySem.W.Frag) (F : Hp) (ks : List (NestedKey × Addr)) : Prop := ∀ p ∈ ks, NkV K F p.1 (.ref p.2) ∧ p.1.depth ≤ 8
section
variable [Tbl]
mutual
inductive Rep (K : PySem.W.Frag) (F : Hp) : V → D → Prop
  | non : Rep K F .non .non
  | bl (b : Bool) : Rep K F (.bl b) (.bl b)
  | int (i : Int) : Rep K F (.int i) (.int i)
  | str (x : Str) : Rep K F (.str x) (.str x)
  | ty (n : String) : Rep K F (.ty n) (.ty n)
  | tup {a : Addr} {xs : List V} {l : List D} : SqT K F a xs → RepA K F xs l → Rep K F (.ref a) (.tup l)
  | lst {a : Addr} {xs : List V} {l : List D} : F a = some (.lst xs) → RepA K F xs l → Rep K F (.ref a) (.lst l)
  | ins {a C dx : Addr} {xs : List (Str × V)} {fs : List (Str × D)} : F a = some (.ins C dx xs) → RepF K F xs fs → Rep K F (.ref a) (.ins C fs)
  | obj (a : Addr) : Rep K F (.ref a) (.obj a)
  | scr {a : Addr} {ns : List Int} : SqL K F a (ns.map V.int) → Rep K F (.ref a) (.scr ns)
  | bag {a : Addr} : F a = some (BagO a) → Rep K F (.ref a) (.bag a)
  | dct {a : Addr} {o : Obj} {xs : List (Str × V)} {fs : List (Str × D)} : F a = some (.frz o (.dK (keyed xs))) → RepF K F xs fs → Rep K F (.ref a) (.dct fs)
  | tux {a : Addr} {o : Obj} {xs : List V} {l : List D} : F a = some (.frz o (.tup xs)) → o.dict = none → RepA K F xs l → Rep K F (.ref a) (.tux l)
  | exc {a C : Addr} {d : Option Addr} {xs : List (Str × V)} {fs : List (Str × D)} : F a = some (exo a C d) → XdOk F d xs → RepF K F xs fs → Rep K F (.ref a) (.exc C fs)
  | fnv {f c : Addr} {n : NS} {cl : List (Str × Addr)} {ws : List V} {caps : List D} : F f = some (NdefX.FnO f (n.nf cl c)) → F c = some (LamX.CodeO c n.qual) → CapOk F cl n.fr ws → RepA K F ws caps → Rep K F (.ref f) (.fnv n caps)
  | dci {a : Addr} {o : Obj} {xs : List V} {fs : List (Int × D)} : F a = some (.frz o (.dK (keyedI (fs.map Prod.fst) xs))) → RepA K F xs (fs.map Prod.snd) → Rep K F (.ref a) (.dci fs)
  | dcn {a : Addr} {ks : List (NestedKey × Addr)} {xs : List V} {fs : List (NestedKey × D)} : F a = some (DctN Tbl.w a ks xs) → ks.map (·.1) = fs.map Prod.fst → KeysAt K F ks → RepA K F xs (fs.map Prod.snd) → Rep K F (.ref a) (.dcn fs)
  | lmv {f c : Addr} {L : LS} : F f = some (LamO f L c) → F c = some (LamX.CodeO c L.qual) → Rep K F (.ref f) (.lmv L)
inductive RepA (K : PySem.W.Frag) (F : Hp) : List V → List D → Prop
  | nil : RepA K F [] []
  | cons {v : V} {vs : List V} {d : D} {ds : List D} : Rep K F v d → RepA K F vs ds → RepA K F (v :: vs) (d :: ds)
inductive RepF (K : PySem.W.Frag) (F : Hp) : List (Str × V) → List (Str × D) → Prop
  | nil : RepF K F [] []
  | cons {n : Str} {v : V} {vs : List (Str × V)} {d : D} {ds : List (Str × D)} : Rep K F v d → RepF K F vs ds → RepF K F ((n, v) :: vs) ((n, d) :: ds)
end

end
theorem same_rd {H H' : Hp} {a : Addr} {u : HO} (e : Same H H') (h : Rd H a u) : Rd H' a u := by
  rcases h with h | ⟨o, h⟩
  · exact .inl (e a _ h)
  · exact .inr ⟨o, e a _ h⟩
theorem same_t {K : PySem.W.Frag} {H H' : Hp} {a : Addr} {xs : List V} (e : Same H H') (h : SqT K H a xs) : SqT K H' a xs := by
  rcases h with h | h
  · exact .inl (same_rd e h)
  · exact .inr h
section
variable {K : PySem.W.Frag} {F F' : Hp}
mutual
theorem NkV.mono (e : Same F F') : ∀ {k : NestedKey} {v : V}, NkV K F k v → NkV K F' k v
  | _, _, .non => .non
  | _, _, .bl b => .bl b
  | _, _, .int i => .int i
  | _, _, .str x => .str x
  | _, _, .tup h r => .tup (same_t e h) (NkA.mono e r)
theorem NkA.mono (e : Same F F') : ∀ {k : List NestedKey} {v : List V}, NkA K F k v → NkA K F' k v
  | _, _, .nil => .nil
  | _, _, .cons h r => .cons (NkV.mono e h) (NkA.mono e r)
end
theorem KeysAt.mono {ks : List (NestedKey × Addr)} (e : Same F F') (h : KeysAt K F ks) : KeysAt K F' ks := fun p hp => ⟨(h p hp).1.mono e, (h p hp).2⟩
variable [Tbl]
mutual
theorem Rep.mono (e : Same F F') : ∀ {v : V} {d : D}, Rep K F v d → Rep K F' v d
  | _, _, .non => .non
  | _, _, .bl b => .bl b
  | _, _, .int i => .int i
  | _, _, .str x => .str x
  | _, _, .ty n => .ty n
  | _, _, .tup h r => .tup (same_t e h) (RepA.mono e r)
  | _, _, .lst h r => .lst (e _ _ h) (RepA.mono e r)
  | _, _, .ins h r => .ins (e _ _ h) (RepF.mono e r)
  | _, _, .obj a => .obj a
  | _, _, .scr h => .scr (e.seq h)
  | _, _, .bag h => .bag (e _ _ h)
  | _, _, .dct h r => .dct (e _ _ h) (RepF.mono e r)
  | _, _, .tux h z r => .tux (e _ _ h) z (RepA.mono e r)
  | _, _, .exc h g r => .exc (e _ _ h) (XdOk.mono e g) (RepF.mono e r)
  | _, _, .fnv h g z r => .fnv (e _ _ h) (e _ _ g) (z.mono e) (RepA.mono e r)
  | _, _, .dci h r => .dci (e _ _ h) (RepA.mono e r)
  | _, _, .dcn h z g r => .dcn (e _ _ h) z (g.mono e) (RepA.mono e r)
  | _, _, .lmv h g => .lmv (e _ _ h) (e _ _ g)
theorem RepA.mono (e : Same F F') : ∀ {v : List V} {d : List D}, RepA K F v d → RepA K F' v d
  | _, _, .nil => .nil
  | _, _, .cons h r => .cons (Rep.mono e h) (RepA.mono e r)
theorem RepF.mono (e : Same F F') : ∀ {v : List (Str × V)} {d : List (Str × D)}, RepF K F v d → RepF K F' v d
  | _, _, .nil => .nil
  | _, _, .cons h r => .cons (Rep.mono e h) (RepF.mono e r)
end
theorem RepA.len : ∀ {v : List V} {d : List D}, RepA K F v d → v.length = d.length
  | _, _, .nil => rfl
  | _, _, .cons _ r => congrArg Nat.succ (RepA.len r)
theorem RepA.app : ∀ {v w : List V} {d e : List D}, RepA K F v d → RepA K F w e → RepA K F (v ++ w) (d ++ e)
  | _, _, _, _, .nil, s => s
  | _, _, _, _, .cons h r, s => .cons h (RepA.app r s)
theorem RepA.one {v : V} {d : D} (h : Rep K F v d) : RepA K F [v] [d] := .cons h .nil
theorem RepA.getD : ∀ {v : List V} {d : List D} {i : Nat} {y : D}, RepA K F v d → d[i]? = some y → ∃ x, v[i]? = some x ∧ Rep K F x y
  | _, _, _, _, .nil, e => by simp at e
  | _, _, 0, _, .cons h _, e => by
    simp at e
    subst e
    exact ⟨_, rfl, h⟩
  | _, _, i + 1, x, .cons _ r, e => by
    obtain ⟨y, h1, h2⟩ := RepA.getD (i := i) (y := x) r (by simpa using e)
    exact ⟨y, by simpa using h1, h2⟩
theorem RepA.take : ∀ {v : List V} {d : List D} (n : Nat), RepA K F v d → RepA K F (v.take n) (d.take n)
  | _, _, 0, _ => .nil
  | _, _, _ + 1, .nil => .nil
  | _, _, n + 1, .cons h r => .cons h (RepA.take n r)
theorem RepA.drop : ∀ {v : List V} {d : List D} (n : Nat), RepA K F v d → RepA K F (v.drop n) (d.drop n)
  | _, _, 0, r => r
  | _, _, _ + 1, .nil => .nil
  | _, _, n + 1, .cons _ r => RepA.drop n r
theorem RepA.ints : ∀ (ns : List Int), RepA K F (ns.map V.int) (ns.map D.int)
  | [] => .nil
  | n :: r => .cons (.int n) (RepA.ints r)
theorem RepA.ints_inv : ∀ {v : List V} {ns : List Int}, RepA K F v (ns.map D.int) → v = ns.map V.int
  | _, [], .nil => rfl
  | _, n :: r, .cons h t => by
    cases h
    rw [RepA.ints_inv t]
    rfl
theorem RepF.lookup {f : Str} : ∀ {v : List (Str × V)} {d : List (Str × D)} {y : D}, RepF K F v d → d.lookup f = some y → ∃ x, v.lookup f = some x ∧ Rep K F x y
  | _, _, _, .nil, e => by simp at e
  | (n, v) :: vs, (_, d) :: ds, y, .cons h r, e => by
    rw [List.lookup_cons] at e ⊢
    cases hb : f == n with
    | true =>
      rw [hb] at e
      cases e
      exact ⟨v, rfl, h⟩
    | false =>
      rw [hb] at e
      exact RepF.lookup r e
end

/-! ### steps of the heap: F the frozen part, H the whole -/
/-- no table -/
def NT : HO → Prop
  | .tbl _ => False
  | _ => True
/-- what may change -/
def Mn : HO → Prop
  | .lst _ => True
  | .ins _ _ _ => True
  | .dK _ => True
  | .ext φ => ∃ w a ks xs, φ = dnP w a ks xs
  | _ => False
theorem mn_nt {o : HO} (m : Mn o) : NT o := by
  cases o <;> first | trivial | exact m
/-- a code object, and nothing else -/
def heapC (c : Addr) (q : Str) : Heap := { objs := Array.replicate (c + 1) { cls := .none, data := .fields #[.none, .str q 0] } }
theorem heapC_get {c b : Addr} {q : Str} {o : Obj} (h : (heapC c q).get? b = some o) : o = { cls := .none, data := .fields #[.none, .str q 0] } := by
  unfold heapC Heap.get? at h
  simp only [Array.getElem?_replicate] at h
  split at h
  · cases h
  · split at h
    · exact (Option.some.inj h).symm
    · cases h
theorem heapC_at (c : Addr) (q : Str) : (heapC c q).get? c = some { cls := .none, data := .fields #[.none, .str q 0] } := by
  unfold heapC Heap.get?
  simp
theorem mn_code {c : Addr} {q : Str} : ¬ Mn (LamX.CodeO c q) := fun m => by
  obtain ⟨w, a, ks, xs, e⟩ := (show ∃ w a ks xs, (fun h : Heap => ∃ (oc : Obj) (vs : Array Value) (t : Tok), h.get? c = some oc ∧ oc.data = .fields vs ∧ vs[1]? = some (.str q t)) = dnP w a ks xs from m)
  have h : dnP w a ks xs (heapC c q) := by
    rw [← e]
    exact ⟨_, _, 0, heapC_at c q, rfl, rfl⟩
  obtain ⟨o, ho, _, d⟩ := h
  obtain ⟨es, ep, us, hd, _⟩ := d.dt
  rw [heapC_get ho] at hd
  cases hd
theorem mn_dn {w : World} {a : Addr} {ks : List (NestedKey × Addr)} {xs : List V} : Mn (DctN w a ks xs) := ⟨w, a, ks, xs, rfl⟩
section
variable [Tbl]
/-- nothing that is told of -/
def Fre (H : Hp) (a : Addr) : Prop := H a = none ∨ ((∃ ps, H a = some (.tbl ps)) ∧ (∀ p ∈ Tbl.T, p.1 ≠ a) ∧ ∀ p ∈ Tbl.N, p.1 ≠ a)
/-- the tables are there -/
def TB (H : Hp) : Prop := LamX.Tabs Tbl.T H ∧ NdefX.TabsN Tbl.N H
structure Grw (H H' : Hp) : Prop where
  kp : ∀ a o, H a = some o → NT o → H' a = some o
  fr : ∀ a, Fre H' a → Fre H a
structure Fz (F H : Hp) : Prop where
  sm : Same F H
  tb : TB H
  nt : ∀ a o, F a = some o → NT o
instance {F H : Hp} : CoeOut (Fz F H) (Same F H) := ⟨Fz.sm⟩
instance {F H : Hp} : CoeFun (Fz F H) (fun _ => ∀ a o, F a = some o → H a = some o) := ⟨fun e => e.sm⟩
theorem Fz.free {F H : Hp} {a : Addr} (e : Fz F H) (h : H a = none) : F a = none := e.sm.free h
theorem Fz.seq {F H : Hp} {K : PySem.W.Frag} {a : Addr} {xs : List V} (e : Fz F H) (h : SqL K F a xs) : SqL K H a xs := e.sm.seq h
theorem Grw.get {H H' : Hp} {a : Addr} {o : HO} (g : Grw H H') (h : H a = some o) (n : NT o := by exact True.intro) : H' a = some o := g.kp a o h n
theorem Fre.lst {H : Hp} {a : Addr} {o : HO} (f : Fre H a) (h : H a = some o) (n : NT o) : False := by
  rcases f with f | ⟨⟨ps, f⟩, _⟩
  · rw [f] at h
    cases h
  · rw [f] at h
    cases h
    exact n
theorem Grw.refl (H : Hp) : Grw H H := ⟨fun _ _ h _ => h, fun _ h => h⟩
theorem Grw.trans {H H1 H2 : Hp} (a : Grw H H1) (b : Grw H1 H2) : Grw H H2 := ⟨fun x o h n => b.kp x o (a.kp x o h n) n, fun x h => a.fr x (b.fr x h)⟩
structure Stp (F F' H H' : Hp) : Prop where
  ff : Same F F'
  hh : Grw H H'
  fh : Fz F' H'
  nw : ∀ a, F a = none → (∃ u, H a = some u ∧ Mn u) → F' a = none
theorem Stp.refl {F H : Hp} (e : Fz F H) : Stp F F H H := ⟨Same.refl F, Grw.refl H, e, fun _ h _ => h⟩
theorem Stp.trans {F F1 F2 H H1 H2 : Hp} (a : Stp F F1 H H1) (b : Stp F1 F2 H1 H2) : Stp F F2 H H2 :=
  ⟨a.ff.trans b.ff, a.hh.trans b.hh, b.fh, fun x hf ⟨u, hu, n⟩ => b.nw x (a.nw x hf ⟨u, hu, n⟩) ⟨u, a.hh.kp x u hu (mn_nt n), n⟩⟩
theorem same_new {H : Hp} {p : Addr} {o : HO} (h : H p = none) : Same H (upd H p o) := fun a u e => by
  rw [upd_ne (ne_of_none e h)]
  exact e
theorem grw_new {H : Hp} {p : Addr} {o : HO} (h : H p = none) : Grw H (upd H p o) := ⟨fun a u e _ => same_new h a u e, fun a f => by
  by_cases z : a = p
  · rw [z]
    exact .inl h
  · unfold Fre at f
    rw [upd_ne z] at f
    exact f⟩
theorem tabs_new {H : Hp} {p : Addr} {o : HO} (t : TB H) (h : H p = none) : TB (upd H p o) := ⟨t.1.ext fun a u e => same_new h a u e, t.2.ext fun a u e => same_new h a u e⟩
theorem tabs_mut {H : Hp} {p : Addr} {o u : HO} (t : TB H) (hp : H p = some u) (m : Mn u) : TB (upd H p o) := by
  have nc : ∀ {c : Addr} {q : Str}, H c = some (LamX.CodeO c q) → (upd H p o) c = some (LamX.CodeO c q) := fun {c q} e => by
    have n2 : c ≠ p := fun z => by
      rw [z, hp] at e
      rw [Option.some.inj e] at m
      exact mn_code m
    rw [upd_ne n2]
    exact e
  have nt : ∀ {a : Addr} {ps : Array Value}, H a = some (.tbl ps) → (upd H p o) a = some (.tbl ps) := fun {a ps} e => by
    have n1 : a ≠ p := fun z => by
      rw [z, hp] at e
      rw [Option.some.inj e] at m
      exact m
    rw [upd_ne n1]
    exact e
  refine ⟨fun q hq => ?_, fun q hq => ?_⟩
  · obtain ⟨ps, e1, e2, e3⟩ := t.1 q hq
    refine ⟨ps, nt e1, e2, fun pos cv hc => ?_⟩
    obtain ⟨c, g1, g2⟩ := e3 pos cv hc
    exact ⟨c, g1, nc g2⟩
  · obtain ⟨ps, e1, e2, e3⟩ := t.2 q hq
    refine ⟨ps, nt e1, e2, fun pos cv hc => ?_⟩
    obtain ⟨c, g1, g2⟩ := e3 pos cv hc
    exact ⟨c, g1, nc g2⟩
theorem fz_new {F H : Hp} {p : Addr} {o : HO} (e : Fz F H) (h : H p = none) : Fz F (upd H p o) := ⟨e.sm.trans (same_new h), tabs_new e.tb h, e.nt⟩
/-- a new object, frozen at once -/
theorem nt_upd {F : Hp} {p : Addr} {o : HO} (e : ∀ a u, F a = some u → NT u) (n : NT o) : ∀ a u, (upd F p o) a = some u → NT u := fun a u q => by
  by_cases z : a = p
  · rw [z, upd_same] at q
    cases q
    exact n
  · rw [upd_ne z] at q
    exact e a u q
theorem Stp.new {F H : Hp} {p : Addr} {o : HO} (e : Fz F H) (h : H p = none) (n : NT o := by exact True.intro) : Stp F (upd F p o) H (upd H p o) := by
  have hf : F p = none := e.free h
  refine ⟨same_new hf, grw_new h, ⟨fun a u q => ?_, tabs_new e.tb h, nt_upd e.nt n⟩, fun a h1 ⟨u, h2, _⟩ => ?_⟩
  · by_cases z : a = p
    · subst z
      rw [upd_same] at q ⊢
      exact q
    · rw [upd_ne z] at q ⊢
      exact e a u q
  · have z : a ≠ p := ne_of_none h2 h
    rw [upd_ne z]
    exact h1
/-- a new object, not frozen -/
theorem Stp.fresh {F H : Hp} {p : Addr} {o : HO} (e : Fz F H) (h : H p = none) : Stp F F H (upd H p o) :=
  ⟨Same.refl F, grw_new h, fz_new e h, fun _ h1 _ => h1⟩
/-- one's own new object is frozen -/
theorem Stp.freeze {F F' H H' : Hp} {p : Addr} {o : HO} (s : Stp F F' H H') (h : Fre H p) (hf : F' p = none) (hp : H' p = some o) (n : NT o := by exact True.intro) : Stp F (upd F' p o) H H' := by
  refine ⟨s.ff.trans (same_new hf), s.hh, ⟨fun a u q => ?_, s.fh.tb, nt_upd s.fh.nt n⟩, fun a h1 h2 => ?_⟩
  · by_cases z : a = p
    · subst z
      rw [upd_same] at q
      rw [hp]
      exact q
    · rw [upd_ne z] at q
      exact s.fh a u q
  · have z : a ≠ p := fun z => by
      obtain ⟨u, h2, n⟩ := h2
      rw [z] at h2
      exact h.lst h2 (mn_nt n)
    rw [upd_ne z]
    exact s.nw a h1 h2
/-- one's own object changes -/
theorem Stp.mut {F F' H H' : Hp} {p : Addr} {o u : HO} (s : Stp F F' H H') (h : Fre H p) (hf : F' p = none) (hp : H' p = some u) (m : Mn u := by exact True.intro) : Stp F F' H (upd H' p o) :=
  ⟨s.ff, ⟨fun a v e n => by
    have z : a ≠ p := fun z => by
      rw [z] at e
      exact h.lst e n
    rw [upd_ne z]
    exact s.hh.kp a v e n, fun a f => by
    by_cases z : a = p
    · rw [z]
      exact h
    · unfold Fre at f
      rw [upd_ne z] at f
      exact s.hh.fr a f⟩, ⟨fun a v e => by
    rw [upd_ne (ne_of_none e hf)]
    exact s.fh a v e, tabs_mut s.fh.tb hp m, s.fh.nt⟩, s.nw⟩
end

/-! ### slots, states -/
inductive SV where
  | un | d (v : D) | fn (n : NS) (cl : List (Str × Addr)) | dii (fs : List (Int × D)) | din (fs : List (NestedKey × D)) | own (l : List D) | dic (fs : List (Str × D)) | me (a C : Addr) (fs : List (Str × D)) | exn (a C dd : Addr) (fs : List (Str × D))
abbrev EV := List SV
section
variable [Tbl]
structure Ent where
  F : Hp
  H : Hp
def SlotOk (K : PySem.W.Frag) (B : Ent) (F H : Hp) (x : Option (Option V)) : SV → Prop
  | .un => True
  | .d v => ∃ y, x = some (some y) ∧ Rep K F y v
  | .fn n cl => ∃ f c, x = some (some (.ref f)) ∧ F f = some (NdefX.FnO f (n.nf cl c)) ∧ F c = some (LamX.CodeO c n.qual)
  | .exn a C dd fs => x = some (some (.ref a)) ∧ ∃ xs, F dd = some (.xd xs) ∧ RepF K F xs fs
  | .own l => ∃ (a : Addr) (xs : List V), x = some (some (.ref a)) ∧ H a = some (.lst xs) ∧ RepA K F xs l ∧ F a = none ∧ Fre B.H a
  | .dic l => ∃ (a : Addr) (xs : List (Str × V)), x = some (some (.ref a)) ∧ H a = some (.dK (keyed xs)) ∧ RepF K F xs l ∧ F a = none ∧ Fre B.H a
  | .dii fs => ∃ (a : Addr) (xs : List V), x = some (some (.ref a)) ∧ H a = some (.dK (keyedI (fs.map Prod.fst) xs)) ∧ RepA K F xs (fs.map Prod.snd) ∧ F a = none ∧ Fre B.H a
  | .din fs => ∃ (a : Addr) (ks : List (NestedKey × Addr)) (xs : List V), x = some (some (.ref a)) ∧ H a = some (DctN Tbl.w a ks xs) ∧ (ks.map (·.1) = fs.map Prod.fst ∧ KeysAt K F ks) ∧ RepA K F xs (fs.map Prod.snd) ∧ F a = none ∧ Fre B.H a
  | .me a C fs => ∃ (dx : Addr) (xs : List (Str × V)), x = some (some (.ref a)) ∧ H a = some (.ins C dx xs) ∧ RepF K F xs fs ∧ F a = none ∧ Fre B.H a
def Mine : SV → Prop
  | .own _ => True
  | .dic _ => True
  | .dii _ => True
  | .din _ => True
  | .me _ _ _ => True
  | _ => False
structure At (K : PySem.W.Frag) (B : Ent) (env : EV) (F : Hp) (σ : St) (H : Hp) : Prop where
  len : σ.length = env.length
  st : Stp B.F F B.H H
  sl : ∀ (i : Nat) (sv : SV), env[i]? = some sv → SlotOk K B F H (σ[i]?) sv
  inj : ∀ (i j : Nat) (s t : SV) (a : Addr), env[i]? = some s → env[j]? = some t → Mine s → Mine t → σ[i]? = some (some (.ref a)) → σ[j]? = some (some (.ref a)) → i = j
section
variable {K : PySem.W.Frag} {B : Ent} {env : EV} {F F' H H' : Hp} {σ : St}
theorem At.fh (a : At K B env F σ H) : Fz F H := a.st.fh
theorem SlotOk.step {x : Option (Option V)} {sv : SV} (s : Stp F F' H H') (h : SlotOk K B F H x sv) : SlotOk K B F' H' x sv := by
  cases sv with
  | un => trivial
  | d v =>
    obtain ⟨y, e, r⟩ := h
    exact ⟨y, e, r.mono s.ff⟩
  | fn n cl =>
    obtain ⟨f, c, e, h1, h2⟩ := h
    exact ⟨f, c, e, s.ff _ _ h1, s.ff _ _ h2⟩
  | exn a C dd fs =>
    obtain ⟨e, xs, h1, r⟩ := h
    exact ⟨e, xs, s.ff _ _ h1, r.mono s.ff⟩
  | own l =>
    obtain ⟨a, xs, e, h1, r, h2, h3⟩ := h
    exact ⟨a, xs, e, s.hh.get h1, r.mono s.ff, s.nw a h2 ⟨_, h1, trivial⟩, h3⟩
  | dii l =>
    obtain ⟨a, xs, e, h1, r, h2, h3⟩ := h
    exact ⟨a, xs, e, s.hh.get h1, r.mono s.ff, s.nw a h2 ⟨_, h1, trivial⟩, h3⟩
  | din l =>
    obtain ⟨a, ks, xs, e, h1, ⟨z1, z2⟩, r, h2, h3⟩ := h
    exact ⟨a, ks, xs, e, s.hh.get h1 trivial, ⟨z1, z2.mono s.ff⟩, r.mono s.ff, s.nw a h2 ⟨_, h1, mn_dn⟩, h3⟩
  | dic l =>
    obtain ⟨a, xs, e, h1, r, h2, h3⟩ := h
    exact ⟨a, xs, e, s.hh.get h1, r.mono s.ff, s.nw a h2 ⟨_, h1, trivial⟩, h3⟩
  | me a C fs =>
    obtain ⟨dx, xs, e, h1, r, h2, h3⟩ := h
    exact ⟨dx, xs, e, s.hh.get h1, r.mono s.ff, s.nw a h2 ⟨_, h1, trivial⟩, h3⟩
theorem At.step (a : At K B env F σ H) (s : Stp F F' H H') : At K B env F' σ H' :=
  ⟨a.len, a.st.trans s, fun i sv e => (a.sl i sv e).step s, a.inj⟩
theorem At.var (a : At K B env F σ H) {i : Nat} {d : D} (e : env[i]? = some (.d d)) : ∃ x, σ[i]? = some (some x) ∧ Rep K F x d := a.sl i _ e
theorem get_set {α : Type} {l : List α} {i j : Nat} {x y : α} (h : (l.set i x)[j]? = some y) : (j = i ∧ y = x) ∨ (j ≠ i ∧ l[j]? = some y) := by
  by_cases e : j = i
  · subst e
    rw [List.getElem?_set_self'] at h
    cases hl : l[j]? with
    | none =>
      rw [hl] at h
      cases h
    | some z =>
      rw [hl] at h
      exact .inl ⟨rfl, (Option.some.inj h).symm⟩
  · rw [List.getElem?_set_ne (fun z => e z.symm)] at h
    exact .inr ⟨e, h⟩
theorem set_get {α : Type} {l : List α} {i : Nat} {x : α} (h : i < l.length) : (l.set i x)[i]? = some x := by
  rw [List.getElem?_set_self h]
theorem lt_of_get {α : Type} {l : List α} {i : Nat} {x : α} (h : l[i]? = some x) : i < l.length := (List.getElem?_eq_some_iff.mp h).1
/-- a slot gets a value -/
theorem At.set (a : At K B env F σ H) {i : Nat} {x : V} {d : D} (r : Rep K F x d) : At K B (env.set i (.d d)) F (σ.set i (some x)) H := by
  refine ⟨by rw [List.length_set, List.length_set]; exact a.len, a.st, fun j sv e => ?_, fun j k s t b e1 e2 m1 m2 q1 q2 => ?_⟩
  · rcases get_set e with ⟨rfl, rfl⟩ | ⟨hj, e⟩
    · refine ⟨x, ?_, r⟩
      have h := lt_of_get e
      rw [List.length_set, ← a.len] at h
      exact set_get h
    · rw [List.getElem?_set_ne (fun z => hj z.symm)]
      exact a.sl j sv e
  · rcases get_set e1 with ⟨_, rfl⟩ | ⟨hj, e1⟩
    · exact m1.elim
    rcases get_set e2 with ⟨_, rfl⟩ | ⟨hk, e2⟩
    · exact m2.elim
    rw [List.getElem?_set_ne (fun z => hj z.symm)] at q1
    rw [List.getElem?_set_ne (fun z => hk z.symm)] at q2
    exact a.inj j k s t b e1 e2 m1 m2 q1 q2
theorem At.unset (a : At K B env F σ H) {i : Nat} (x : Option V) : At K B (env.set i .un) F (σ.set i x) H := by
  refine ⟨by rw [List.length_set, List.length_set]; exact a.len, a.st, fun j sv e => ?_, fun j k s t b e1 e2 m1 m2 q1 q2 => ?_⟩
  · rcases get_set e with ⟨rfl, rfl⟩ | ⟨hj, e⟩
    · trivial
    · rw [List.getElem?_set_ne (fun z => hj z.symm)]
      exact a.sl j sv e
  · rcases get_set e1 with ⟨_, rfl⟩ | ⟨hj, e1⟩
    · exact m1.elim
    rcases get_set e2 with ⟨_, rfl⟩ | ⟨hk, e2⟩
    · exact m2.elim
    rw [List.getElem?_set_ne (fun z => hj z.symm)] at q1
    rw [List.getElem?_set_ne (fun z => hk z.symm)] at q2
    exact a.inj j k s t b e1 e2 m1 m2 q1 q2
end
end
end DL
/-! DL2: what a reading asks, over data: expressions, arguments, tests, statements, loops, calls. -/
namespace DL
open PySem L2

variable [Tbl]
/-- an error: its class, its fields -/
structure Er where
  C : Addr
  fs : List (Str × D)
abbrev ER := Er → Prop
abbrev WE := EV → ER → (D → Prop) → Prop
abbrev WT := EV → ER → (Bool → Prop) → Prop
abbrev WA := EV → ER → (List D → Prop) → Prop
abbrev WO := EV → ER → (List D → Prop) → Prop
structure DN where
  nx : EV → Prop
  rt : D → Prop
  bk : EV → Prop := fun _ => False
  ct : EV → Prop := fun _ => False
  er : ER := fun _ => False
abbrev WS := DN → EV → Prop
/-- a def's meaning -/
abbrev FS := List D → ER → (D → Prop) → Prop

def ErrRep (K : PySem.W.Frag) (F : Hp) (d : Option Addr) (fs : List (Str × D)) : Prop := match d with
  | none => fs = []
  | some d => ∃ xs, F d = some (.xd xs) ∧ RepF K F xs fs
def EL (K : PySem.W.Frag) (B : Ent) (E : XK) (er : ER) : Prop := ∀ (C : Addr) (d : Option Addr) (fs : List (Str × D)) (F' H' : Hp), Stp B.F F' B.H H' → ErrRep K F' d fs → er ⟨C, fs⟩ → E (.ref C) d H'
def VL (K : PySem.W.Frag) (F H : Hp) (Q : VK) (q : D → Prop) : Prop := ∀ (x : V) (d : D) (F' H' : Hp), Stp F F' H H' → Rep K F' x d → q d → Q x H'
section
variable (K : PySem.W.Frag) (E : XK)
def SimE (te : TE) (w : WE) : Prop := ∀ (B : Ent) (env : EV) (F : Hp) (σ : St) (H : Hp) (Q : VK) (er : ER) (q : D → Prop), At K B env F σ H → EL K B E er → w env er q → VL K F H Q q → te σ H Q
def SimT (tt : TT) (w : WT) : Prop := ∀ (B : Ent) (env : EV) (F : Hp) (σ : St) (H : Hp) (Q : Bool → Hp → Prop) (er : ER) (q : Bool → Prop), At K B env F σ H → EL K B E er → w env er q →
  (∀ (b : Bool) (F' H' : Hp), Stp F F' H H' → q b → Q b H') → tt σ H Q
def SimA (ta : TA) (w : WA) : Prop := ∀ (B : Ent) (env : EV) (F : Hp) (σ : St) (H : Hp) (Q : List V → Hp → Prop) (er : ER) (q : List D → Prop), At K B env F σ H → EL K B E er → w env er q →
  (∀ (xs : List V) (ds : List D) (F' H' : Hp), Stp F F' H H' → RepA K F' xs ds → q ds → Q xs H') → ta σ H Q
/-- a new list that nobody else holds -/
def SimO (te : TE) (w : WO) : Prop := ∀ (B : Ent) (env : EV) (F : Hp) (σ : St) (H : Hp) (Q : VK) (er : ER) (q : List D → Prop), At K B env F σ H → EL K B E er → w env er q →
  (∀ (a : Addr) (xs : List V) (l : List D) (F' H' : Hp), Stp F F' H H' → Fre H a → H' a = some (.lst xs) → F' a = none → RepA K F' xs l → q l → Q (.ref a) H') → te σ H Q
/-- a list that is looked at: its items -/
def SimL (te : TE) (w : WO) : Prop := ∀ (B : Ent) (env : EV) (F : Hp) (σ : St) (H : Hp) (Q : VK) (er : ER) (q : List D → Prop), At K B env F σ H → EL K B E er → w env er q →
  (∀ (a : Addr) (xs : List V) (l : List D) (F' H' : Hp), Stp F F' H H' → SqL K H' a xs → RepA K F' xs l → q l → Q (.ref a) H') → te σ H Q
structure Link (B : Ent) (Dd : Ends) (n : DN) : Prop where
  nx : ∀ (env : EV) (F : Hp) (σ : St) (H : Hp), At K B env F σ H → n.nx env → Dd.nx σ H
  rt : ∀ (x : V) (d : D) (F H : Hp), Stp B.F F B.H H → Rep K F x d → n.rt d → Dd.rt x H
  bk : ∀ (env : EV) (F : Hp) (σ : St) (H : Hp), At K B env F σ H → n.bk env → Dd.bk σ H
  ct : ∀ (env : EV) (F : Hp) (σ : St) (H : Hp), At K B env F σ H → n.ct env → Dd.ct σ H
  er : EL K B E n.er
def SimS (ts : TS) (w : WS) : Prop := ∀ (B : Ent) (Dd : Ends) (n : DN), Link K E B Dd n → ∀ (env : EV) (F : Hp) (σ : St) (H : Hp), At K B env F σ H → w n env → ts Dd σ H
end
/-- a two-place, a one-place operation, a call, on values -/
def Sim2 (K : PySem.W.Frag) (r : R2) (f : D → D → (D → Prop) → Prop) : Prop := ∀ (F H : Hp) (x y : V) (d e : D) (Q : VK) (q : D → Prop), Fz F H → Rep K F x d → Rep K F y e → f d e q → VL K F H Q q → r x y H Q
def Sim1 (K : PySem.W.Frag) (r : V → Hp → VK → Prop) (f : D → (D → Prop) → Prop) : Prop := ∀ (F H : Hp) (x : V) (d : D) (Q : VK) (q : D → Prop), Fz F H → Rep K F x d → f d q → VL K F H Q q → r x H Q
def SimC (K : PySem.W.Frag) (r : List V → Hp → VK → Prop) (f : List D → (D → Prop) → Prop) : Prop := ∀ (F H : Hp) (xs : List V) (ds : List D) (Q : VK) (q : D → Prop), Fz F H → RepA K F xs ds → f ds q → VL K F H Q q → r xs H Q
section
variable {K : PySem.W.Frag} {E : XK} {ta tb tc te : TE} {wa wb wc we : WE} {tt tu : TT} {wt wu : WT} {ts ts' : TS} {ws ws' : WS} {i j : Nat} {d : D} {v : V} {r : R2} {f2 : D → D → (D → Prop) → Prop}
theorem VL.here {F H : Hp} {Q : VK} {q : D → Prop} {x : V} {d : D} (h : VL K F H Q q) (e : Fz F H) (r : Rep K F x d) (z : q d) : Q x H := h x d F H (Stp.refl e) r z
theorem VL.step {F F' H H' : Hp} {Q : VK} {q : D → Prop} (h : VL K F H Q q) (s : Stp F F' H H') : VL K F' H' Q q := fun x d F2 H2 s2 => h x d F2 H2 (s.trans s2)

/-! ### expressions -/
def wVar (i : Nat) : WE := fun env _ q => match env[i]? with
  | some (.d d) => q d
  | _ => False
theorem sim_var : SimE K E (tVar i) (wVar i) := fun B env F σ H Q er q a _ w k => by
  unfold wVar at w
  split at w
  · rename_i d e
    obtain ⟨x, ex, r⟩ := a.var e
    exact ⟨x, ex, k.here a.fh r w⟩
  · exact w.elim
def wC (d : D) : WE := fun _ _ q => q d
theorem sim_int {i : Int} : SimE K E (tC (.int i)) (wC (.int i)) := fun B env F σ H Q er q a _ w k => k.here a.fh (.int i) w
theorem sim_bl {b : Bool} : SimE K E (tC (.bl b)) (wC (.bl b)) := fun B env F σ H Q er q a _ w k => k.here a.fh (.bl b) w
theorem sim_non : SimE K E (tC .non) (wC .non) := fun B env F σ H Q er q a _ w k => k.here a.fh .non w
theorem sim_str {x : Str} : SimE K E (tC (.str x)) (wC (.str x)) := fun B env F σ H Q er q a _ w k => k.here a.fh (.str x) w

def w2 (f : D → D → (D → Prop) → Prop) (wa wb : WE) : WE := fun env er q => wa env er fun x => wb env er fun y => f x y q
theorem sim_op (hr : Sim2 K r f2) (ha : SimE K E ta wa) (hb : SimE K E tb wb) : SimE K E (tOp r ta tb) (w2 f2 wa wb) := fun B env F σ H Q er q a l w k =>
  ha B env F σ H _ er _ a l w fun x d F1 H1 s1 r1 w1 =>
    hb B env F1 σ H1 _ er _ (a.step s1) l w1 fun y e F2 H2 s2 r2 w2 =>
      hr F2 H2 x y d e Q q s2.fh (r1.mono s2.ff) r2 w2 (k.step (s1.trans s2))
def w1 (f : D → (D → Prop) → Prop) (wa : WE) : WE := fun env er q => wa env er fun x => f x q
theorem sim_un {r : V → Hp → VK → Prop} {f : D → (D → Prop) → Prop} (hr : Sim1 K r f) (ha : SimE K E ta wa) : SimE K E (tUn r ta) (w1 f wa) := fun B env F σ H Q er q a l w k =>
  ha B env F σ H _ er _ a l w fun x d F1 H1 s1 r1 w1 => hr F1 H1 x d Q q s1.fh r1 w1 (k.step s1)
def wNil : WA := fun _ _ q => q []
def wCons (wa : WE) (wr : WA) : WA := fun env er q => wa env er fun x => wr env er fun r => q (x :: r)
theorem sim_nil : SimA K E tNil wNil := fun B env F σ H Q er q a _ w k => k [] [] F H (Stp.refl a.fh) .nil w
theorem sim_cons {tr : TA} {wr : WA} (ha : SimE K E ta wa) (hr : SimA K E tr wr) : SimA K E (tCons ta tr) (wCons wa wr) := fun B env F σ H Q er q a l w k =>
  ha B env F σ H _ er _ a l w fun x d F1 H1 s1 r1 w1 =>
    hr B env F1 σ H1 _ er _ (a.step s1) l w1 fun xs ds F2 H2 s2 r2 w2 => k _ _ F2 H2 (s1.trans s2) (.cons (r1.mono s2.ff) r2) w2
def wTup (wa : WA) : WE := fun env er q => wa env er fun l => l.length ≤ sizeLine ∧ q (.tup l)
theorem sim_tup {t : TA} {w : WA} (h : SimA K E t w) : SimE K E (tTup t) (wTup w) := fun B env F σ H Q er q a l w k =>
  h B env F σ H _ er _ a l w fun xs ds F1 H1 s1 r1 w1 => ⟨by rw [r1.len]; exact w1.1, fun p hp =>
    k _ _ _ _ (s1.trans (Stp.new s1.fh hp)) (.tup (.inl (.inl upd_same)) (r1.mono (same_new (s1.fh.free hp)))) w1.2⟩
def wLstO (wa : WA) : WO := fun env er q => wa env er fun l => l.length ≤ sizeLine ∧ q l
theorem sim_lstO {t : TA} {w : WA} (h : SimA K E t w) : SimO K E (tLst t) (wLstO w) := fun B env F σ H Q er q a l w k =>
  h B env F σ H _ er _ a l w fun xs ds F1 H1 s1 r1 w1 => ⟨by rw [r1.len]; exact w1.1, fun p hp =>
    k p xs ds F1 _ (s1.trans (Stp.fresh s1.fh hp)) (s1.hh.fr _ (.inl hp)) upd_same (s1.fh.free hp) r1 w1.2⟩
/-- a new list, frozen -/
def wFz (wo : WO) : WE := fun env er q => wo env er fun l => q (.lst l)
theorem sim_fz {w : WO} (h : SimO K E te w) : SimE K E te (wFz w) := fun B env F σ H Q er q a l w k =>
  h B env F σ H _ er _ a l w fun p xs ds F1 H1 s1 hp h1 hf r1 w1 => k _ _ _ _ (s1.freeze hp hf h1) (.lst upd_same (r1.mono (same_new hf))) w1
/-- a new list, looked at -/
theorem siml_O {w : WO} (h : SimO K E te w) : SimL K E te w := fun B env F σ H Q er q a l w k =>
  h B env F σ H _ er _ a l w fun p xs ds F1 H1 s1 hp h1 hf r1 w1 => k p xs ds F1 H1 s1 (SqL.of h1) r1 w1
def wLk (we : WE) : WO := fun env er q => we env er fun d => match d with
  | .lst l => q l
  | .scr ns => q (ns.map .int)
  | _ => False
theorem siml_E (h : SimE K E te we) : SimL K E te (wLk we) := fun B env F σ H Q er q a l w k =>
  h B env F σ H _ er _ a l w fun x d F1 H1 s1 r1 w1 => by
    cases r1 with
    | lst h1 h2 => exact k _ _ _ F1 H1 s1 (SqL.of (s1.fh _ _ h1)) h2 w1
    | scr h1 => exact k _ _ _ F1 H1 s1 (s1.fh.seq h1) (RepA.ints _) w1
    | _ => exact w1.elim
def wOwn (i : Nat) : WO := fun env _ q => match env[i]? with
  | some (.own l) => q l
  | _ => False
def wAnd (wa wb : WE) : WE := fun env er q => wa env er fun x => match x with
  | .bl true => wb env er q
  | .bl false => q (.bl false)
  | _ => False
theorem sim_andV (ha : SimE K E ta wa) (hb : SimE K E tb wb) : SimE K E (tAndV ta tb) (wAnd wa wb) := fun B env F σ H Q er q a l w k =>
  ha B env F σ H _ er _ a l w fun x d F1 H1 s1 r1 w1 => by
    cases r1 with
    | bl b =>
      refine ⟨b, rfl, ?_⟩
      cases b with
      | true => exact hb B env F1 σ H1 Q er q (a.step s1) l w1 (k.step s1)
      | false => exact k _ _ F1 H1 s1 (.bl false) w1
    | _ => exact w1.elim
def wOr (wa wb : WE) : WE := fun env er q => wa env er fun x => match x with
  | .bl true => q (.bl true)
  | .bl false => wb env er q
  | _ => False
def wNot (wa : WE) : WE := fun env er q => wa env er fun x => match x with
  | .bl b => q (.bl (!b))
  | _ => False
/-- a truth as a test -/
def wB (wa : WE) : WT := fun env er q => wa env er fun x => match x with
  | .bl b => q b
  | _ => False
theorem simt_B (ha : SimE K E ta wa) : SimT K E (tB ta) (wB wa) := fun B env F σ H Q er q a l w k =>
  ha B env F σ H _ er _ a l w fun x d F1 H1 s1 r1 w1 => by
    cases r1 with
    | bl b => exact ⟨b, rfl, k b F1 H1 s1 w1⟩
    | _ => exact w1.elim
theorem simt_test (ha : SimE K E ta wa) : SimT K E (tTest ta) (wB wa) := fun B env F σ H Q er q a l w k =>
  ha B env F σ H _ er _ a l w fun x d F1 H1 s1 r1 w1 => by
    cases r1 with
    | bl b => exact ⟨b, rfl, k b F1 H1 s1 w1⟩
    | _ => exact w1.elim
def wYes : WT := fun _ _ q => q true
theorem simt_yes : SimT K E tYes wYes := fun B env F σ H Q er q a l w k => k true F H (Stp.refl a.fh) w
def wIf (wt : WT) (wa wb : WE) : WE := fun env er q => wt env er fun b => (b = true → wa env er q) ∧ (b = false → wb env er q)
theorem sim_if (ht : SimT K E tt wt) (ha : SimE K E ta wa) (hb : SimE K E tb wb) : SimE K E (tIf tt ta tb) (wIf wt wa wb) := fun B env F σ H Q er q a l w k =>
  ht B env F σ H _ er _ a l w fun b F1 H1 s1 w1 => by
    cases b with
    | true => exact ha B env F1 σ H1 Q er q (a.step s1) l (w1.1 rfl) (k.step s1)
    | false => exact hb B env F1 σ H1 Q er q (a.step s1) l (w1.2 rfl) (k.step s1)
/-- the same where the class is known -/
def wFldC (C : Addr) (f : Str) (wa : WE) : WE := fun env er q => wa env er fun x => match x with
  | .ins C' fs => C' = C ∧ match fs.lookup f with
    | some d => q d
    | none => False
  | _ => False
/-- a built-in called -/
def wCB (f : List D → (D → Prop) → Prop) (wa : WA) : WE := fun env er q => wa env er fun ds => f ds q
theorem sim_cb {r : List V → Hp → VK → Prop} {f : List D → (D → Prop) → Prop} {t : TA} {w : WA} (hr : SimC K r f) (ha : SimA K E t w) : SimE K E (tCB r t) (wCB f w) := fun B env F σ H Q er q a l w k =>
  ha B env F σ H _ er _ a l w fun xs ds F1 H1 s1 r1 w1 => hr F1 H1 xs ds Q q s1.fh r1 w1 (k.step s1)
/-- a built-in called with a list that is looked at -/
def SimCL (K : PySem.W.Frag) (r : List V → Hp → VK → Prop) (f : List D → (D → Prop) → Prop) : Prop := ∀ (F H : Hp) (a : Addr) (xs : List V) (l : List D) (Q : VK) (q : D → Prop), Fz F H → SqL K H a xs → RepA K F xs l → f l q → VL K F H Q q → r [.ref a] H Q
def wCBL (f : List D → (D → Prop) → Prop) (wo : WO) : WE := fun env er q => wo env er fun l => f l q
theorem sim_cbl {r : List V → Hp → VK → Prop} {f : List D → (D → Prop) → Prop} {w : WO} (hr : SimCL K r f) (ha : SimL K E ta w) : SimE K E (tCB r (tCons ta tNil)) (wCBL f w) := fun B env F σ H Q er q a l w k =>
  ha B env F σ H _ er _ a l w fun p xs ds F1 H1 s1 h1 r1 w1 => hr F1 H1 p xs ds Q q s1.fh h1 r1 w1 (k.step s1)

/-! ### own defs called -/
def spOf (K : PySem.W.Frag) (n : Nat) (S : FS) : Sp := fun vs H Q E => ∃ (F : Hp) (ds : List D) (er : ER) (q : D → Prop), ds.length = n ∧ Fz F H ∧ RepA K F vs ds ∧ S ds er q ∧ VL K F H Q q ∧ EL K ⟨F, H⟩ E er
theorem spOf_len {n : Nat} {S : FS} {vs : List V} {H : Hp} {Q : VK} {E : XK} (h : spOf K n S vs H Q E) : vs.length = n := by
  obtain ⟨F, ds, er, q, hl, _, r, _⟩ := h
  rw [r.len, hl]
theorem EL.no {B : Ent} : EL K B E (fun _ => False) := fun C d fs F' H' _ _ z => z.elim
/-- .. that raises nothing -/
def wCall0 (n : Nat) (S : FS) (dd : List D) (wa : WA) : WE := fun env er q => wa env er fun ds => (ds ++ dd).length = n ∧ S (ds ++ dd) (fun _ => False) q
theorem sim_call0 {n : Nat} {S : FS} {dvs : List V} {dd : List D} {t : TA} {w : WA} {E1 : XK} (hd : ∀ F, RepA K F dvs dd) (ha : SimA K E t w) : SimE K E (tCall (spOf K n S) dvs E1 t) (wCall0 n S dd w) := fun B env F σ H Q er q a l w k =>
  ha B env F σ H _ er _ a l w fun xs ds F1 H1 s1 r1 w1 => ⟨F1, ds ++ dd, _, q, w1.1, s1.fh, r1.app (hd F1), w1.2, k.step s1, EL.no⟩
theorem rd0 : ∀ F, RepA K F [] [] := fun _ => .nil

/-! ### statements -/
def sNext : WS := fun n env => n.nx env
theorem sims_next : SimS K E tNext sNext := fun B Dd n L env F σ H a w => L.nx env F σ H a w
def sSeq (w u : WS) : WS := fun n env => w { n with nx := u n } env
theorem sims_seq (h : SimS K E ts ws) (g : SimS K E ts' ws') : SimS K E (tSeq ts ts') (sSeq ws ws') := fun B Dd n L env F σ H a w =>
  h B { Dd with nx := ts' Dd } { n with nx := ws' n } ⟨fun env' F' σ' H' a' w' => g B Dd n L env' F' σ' H' a' w', L.rt, L.bk, L.ct, L.er⟩ env F σ H a w
def sNever : WS := fun _ _ => False
def sDrop (we : WE) : WS := fun n env => we env n.er fun _ => n.nx env
def sRet (we : WE) : WS := fun n env => we env n.er n.rt
theorem sims_ret (h : SimE K E te we) : SimS K E (tRet te) (sRet we) := fun B Dd n L env F σ H a w =>
  h B env F σ H _ n.er _ a L.er w fun x d F1 H1 s1 r1 w1 => L.rt x d F1 H1 (a.st.trans s1) r1 w1
def sRetN : WS := fun n _ => n.rt .non
/-- return found, one's own list -/
def sRetO (i : Nat) : WS := fun n env => match env[i]? with
  | some (.own l) => n.rt (.lst l)
  | _ => False
def sIf (wt : WT) (w u : WS) : WS := fun n env => wt env n.er fun b => (b = true → w n env) ∧ (b = false → u n env)
theorem sims_if (ht : SimT K E tt wt) (h : SimS K E ts ws) (g : SimS K E ts' ws') : SimS K E (tIfS tt ts ts') (sIf wt ws ws') := fun B Dd n L env F σ H a w =>
  ht B env F σ H _ n.er _ a L.er w fun b F1 H1 s1 w1 => by
    cases b with
    | true => exact h B Dd n L env F1 σ H1 (a.step s1) (w1.1 rfl)
    | false => exact g B Dd n L env F1 σ H1 (a.step s1) (w1.2 rfl)
def sAsg (i : Nat) (we : WE) : WS := fun n env => we env n.er fun d => n.nx (env.set i (.d d))
theorem sims_asg (h : SimE K E te we) : SimS K E (tAsg te (gName i)) (sAsg i we) := fun B Dd n L env F σ H a w =>
  h B env F σ H _ n.er _ a L.er w fun x d F1 H1 s1 r1 w1 => L.nx _ F1 _ H1 ((a.step s1).set r1) w1
/-- found = [..] -/
def sAsgO (i : Nat) (wo : WO) : WS := fun n env => wo env n.er fun l => n.nx (env.set i (.own l))
/-- a, b = .., .. -/
def sPar (i j : Nat) (wa wb : WE) : WS := fun n env => wa env n.er fun x => wb env n.er fun y => n.nx ((env.set i (.d x)).set j (.d y))
theorem sims_par (ha : SimE K E ta wa) (hb : SimE K E tb wb) : SimS K E (tPar i j (tCons ta (tCons tb tNil))) (sPar i j wa wb) := fun B Dd n L env F σ H a w =>
  ha B env F σ H _ n.er _ a L.er w fun x d F1 H1 s1 r1 w1 => hb B env F1 σ H1 _ n.er _ (a.step s1) L.er w1 fun y e F2 H2 s2 r2 w2 =>
    ⟨x, y, rfl, L.nx _ F2 _ H2 (((a.step (s1.trans s2)).set (r1.mono s2.ff)).set r2) w2⟩
/-- found, rest = [], .. -/
def sParO (i j : Nat) (wo : WO) (wb : WE) : WS := fun n env => wo env n.er fun l => wb env n.er fun y => n.nx ((env.set i (.own l)).set j (.d y))
/-- x += e -/
def sAug (i : Nat) (f : Int → Int → Int) (we : WE) : WS := fun n env => match env[i]? with
  | some (.d (.int x)) => we env n.er fun y => match y with
    | .int z => n.nx (env.set i (.d (.int (f x z))))
    | _ => False
  | _ => False
/-- xs.append(e), one's own list -/
def sApp (i : Nat) (we : WE) : WS := fun n env => match env[i]? with
  | some (.own l) => we env n.er fun d => l.length < sizeLine ∧ n.nx (env.set i (.own (l ++ [d])))
  | _ => False
/-- from here on found is a list as any other -/
def sFrz (i : Nat) (w : WS) : WS := fun n env => match env[i]? with
  | some (.own l) => w n (env.set i (.d (.lst l)))
  | _ => False

/-! ### the floor is raised -/
theorem Stp.up {F0 F1 F3 H0 H1 H3 : Hp} (s : Stp F1 F3 H0 H3) (s1 : Stp F0 F1 H0 H1) : Stp F0 F3 H0 H3 := ⟨s1.ff.trans s.ff, s.hh, s.fh, fun a h1 h2 => s.nw a (s1.nw a h1 h2) h2⟩
theorem Stp.dn {F0 F1 F3 H0 H1 H3 : Hp} (s : Stp F0 F3 H0 H3) (s1 : Stp F0 F1 H0 H1) (e : Same F1 F3) : Stp F1 F3 H0 H3 := ⟨e, s.hh, s.fh, fun a h1 h2 => s.nw a (s1.ff.free h1) h2⟩
theorem At.up {B : Ent} {env : EV} {F1 F3 H1 H3 : Hp} {σ : St} (a : At K ⟨F1, B.H⟩ env F3 σ H3) (s1 : Stp B.F F1 B.H H1) : At K B env F3 σ H3 := ⟨a.len, a.st.up s1, a.sl, a.inj⟩
theorem At.dn {B : Ent} {env : EV} {F1 F3 H1 H3 : Hp} {σ : St} (a : At K B env F3 σ H3) (s1 : Stp B.F F1 B.H H1) (e : Same F1 F3) : At K ⟨F1, B.H⟩ env F3 σ H3 := ⟨a.len, a.st.dn s1 e, a.sl, a.inj⟩

/-! ### loops -/
/-- over some items -/
def sLoop (body : WS) (g : D → EV → (EV → Prop) → Prop) (n : DN) : List D → EV → Prop
  | [], env => n.nx env
  | x :: r, env => g x env fun env1 => body { n with nx := sLoop body g n r, ct := sLoop body g n r, bk := n.nx } env1
/-- a target -/
def SimG (K : PySem.W.Frag) (js : List Nat) (tg : TG) (g : D → EV → (EV → Prop) → Prop) : Prop := ∀ (B : Ent) (env : EV) (F : Hp) (σ : St) (H : Hp) (x : V) (d : D) (Q : St → Hp → Prop) (q : EV → Prop), At K B env F σ H → Rep K F x d → g d env q →
  (∀ env' σ', At K B env' F σ' H → σ'.length = σ.length → (∀ i, i ∉ js → σ'[i]? = σ[i]?) → q env' → Q σ' H) → tg x σ H Q
def gVar (i : Nat) : D → EV → (EV → Prop) → Prop := fun d env q => q (env.set i (.d d))
theorem off1 {α : Type} {l : List α} {i k : Nat} {x : α} (h : k ∉ [i]) : (l.set i x)[k]? = l[k]? := List.getElem?_set_ne fun z => h (by simp [z])
theorem simg_name {i : Nat} : SimG K [i] (gName i) (gVar i) := fun B env F σ H x d Q q a r w k => k _ _ (a.set r) (by rw [List.length_set]) (fun _ h => off1 h) w
theorem drop_get {α : Type} {l : List α} {i : Nat} {x : α} (h : l[i]? = some x) : l.drop i = x :: l.drop (i + 1) := by
  have hi := lt_of_get h
  rw [List.drop_eq_getElem_cons hi]
  rw [List.getElem?_eq_getElem hi] at h
  rw [Option.some.inj h]
/-- an iterator over items that are known -/
def Wk (K : PySem.W.Frag) (J : It) (F0 : Hp) (ds : List D) : Prop := ∀ (i : Nat) (F H : Hp), Same F0 F → Fz F H → (∀ d, ds[i]? = some d → J.go i H ∧ ∀ x H', J.yld i H x H' → ∃ F', Stp F F' H H' ∧ Rep K F' x d) ∧ (i = ds.length → J.stop i H)
abbrev WI := EV → ER → (List D → Prop) → Prop
def SimI (K : PySem.W.Frag) (E : XK) (wi : TI) (w : WI) : Prop := ∀ (B : Ent) (env : EV) (F : Hp) (σ : St) (H : Hp) (R : It → Hp → Prop) (er : ER) (q : List D → Prop), At K B env F σ H → EL K B E er → w env er q →
  (∀ (J : It) (ds : List D) (F' H' : Hp), Stp F F' H H' → Wk K J F' ds → q ds → R J H') → wi σ H R
def sFor (wi : WI) (g : D → EV → (EV → Prop) → Prop) (body : WS) : WS := fun n env => wi env n.er fun l => sLoop body g n l env
theorem sims_for {wi : TI} {wl : WI} {js : List Nat} {tg : TG} {g : D → EV → (EV → Prop) → Prop} (hl : SimI K E wi wl) (hg : SimG K js tg g) (hb : SimS K E ts ws) : SimS K E (tFor wi tg ts) (sFor wl g ws) := fun B Dd n L env F σ H a w =>
  hl B env F σ H _ n.er _ a L.er w fun J l F1 H1 s1 wk w2 => by
    obtain ⟨P, hP⟩ : ∃ P : Nat → St → Hp → Prop, P = fun i σ' H' => ∃ env' F', At K B env' F' σ' H' ∧ Same F1 F' ∧ sLoop ws g n (l.drop i) env' := ⟨_, rfl⟩
    refine ⟨fun i m σ' H' => m = l.length - i ∧ i ≤ l.length ∧ P i σ' H', ⟨l.length, by simp, Nat.zero_le _, by rw [hP]; exact ⟨env, F1, a.step s1, Same.refl _, by rw [List.drop_zero]; exact w2⟩⟩, ?_⟩
    rintro i m σ' H' ⟨rfl, hi, h⟩
    rw [hP] at h
    obtain ⟨env', F', a', sf, wz⟩ := h
    obtain ⟨k1, k2⟩ := wk i F' H' sf a'.fh
    by_cases hlt : i < l.length
    · obtain ⟨dy, hd⟩ : ∃ dy, l[i]? = some dy := ⟨_, List.getElem?_eq_getElem hlt⟩
      obtain ⟨kg, ky⟩ := k1 dy hd
      refine .inr ⟨kg, P (i + 1), fun σ2 H2 p2 => ⟨l.length - (i + 1), by omega, rfl, hlt, p2⟩, fun y H2 hy => ?_⟩
      obtain ⟨F2, s2, ry⟩ := ky y H2 hy
      rw [drop_get hd] at wz
      have up : ∀ {env3 : EV} {F3 : Hp} {σ3 : St} {H3 : Hp}, At K ⟨F1, B.H⟩ env3 F3 σ3 H3 → At K B env3 F3 σ3 H3 := fun a3 => a3.up (a.step s1).st
      refine hg ⟨F1, B.H⟩ env' F2 σ' H2 y dy _ _ ((a'.step s2).dn (a.step s1).st (sf.trans s2.ff)) ry wz fun env2 σ2 a2 _ _ w3 => ?_
      exact hb ⟨F1, B.H⟩ { Dd with nx := P (i + 1), ct := P (i + 1), bk := Dd.nx } { n with nx := sLoop ws g n (l.drop (i + 1)), ct := sLoop ws g n (l.drop (i + 1)), bk := n.nx } ⟨fun env3 F3 σ3 H3 a3 w4 => by rw [hP]; exact ⟨env3, F3, up a3, a3.st.ff, w4⟩, fun x d F3 H3 s3 r3 w4 => L.rt x d F3 H3 (s3.up (a.step s1).st) r3 w4, fun env3 F3 σ3 H3 a3 w4 => L.nx _ _ _ _ (up a3) w4, fun env3 F3 σ3 H3 a3 w4 => by rw [hP]; exact ⟨env3, F3, up a3, a3.st.ff, w4⟩,
        fun C d fs F3 H3 s3 r3 w4 => L.er C d fs F3 H3 (s3.up (a.step s1).st) r3 w4⟩ env2 F2 σ2 H2 a2 w3
    · have e : i = l.length := by omega
      subst e
      rw [List.drop_length] at wz
      exact .inl ⟨k2 rfl, L.nx env' F' σ' H' a' wz⟩

/-! ### what is walked -/
def iLst (we : WE) : WI := fun env er q => we env er fun d => match d with
  | .lst l => q l
  | .scr ns => q (ns.map .int)
  | _ => False
theorem wk_list {F0 : Hp} {a : Addr} {xs : List V} {ds : List D} (h : SqL K F0 a xs) (r : RepA K F0 xs ds) : Wk K (Itl K a) F0 ds := fun i F H sf fh => by
  have hH : SqL K H a xs := fh.seq (sf.seq h)
  refine ⟨fun d hd => ?_, fun e => ⟨xs, hH, by rw [r.len, e]; exact Nat.le_refl _⟩⟩
  obtain ⟨x, hx, rx⟩ := r.getD hd
  refine ⟨⟨xs, x, hH, hx⟩, fun y H' hy => ?_⟩
  obtain ⟨rfl, hy⟩ := hy
  have e := hy xs hH
  rw [hx] at e
  cases e
  exact ⟨F, Stp.refl fh, rx.mono sf⟩
theorem simi_list {tl : TE} {wl : WE} (h : SimE K E tl wl) : SimI K E (iList K tl) (iLst wl) := fun B env F σ H R er q a l w k =>
  h B env F σ H _ er _ a l w fun x d F1 H1 s1 r1 w1 => by
    cases r1 with
    | lst h1 h2 => exact ⟨_, rfl, ⟨_, SqL.of (s1.fh _ _ h1)⟩, k _ _ F1 H1 s1 (wk_list (SqL.of h1) h2) w1⟩
    | scr h1 => exact ⟨_, rfl, ⟨_, s1.fh.seq h1⟩, k _ _ F1 H1 s1 (wk_list h1 (RepA.ints _)) w1⟩
    | _ => exact w1.elim
def iTupW (we : WE) : WI := fun env er q => we env er fun d => match d with
  | .tup l => q l
  | _ => False
def rngD (lo : Int) (n : Nat) : List D := (List.range n).map fun i => .int (lo + (i : Nat))
theorem wk_rng {F0 : Hp} {lo : Int} {n : Nat} : Wk K (Itr lo n) F0 (rngD lo n) := fun i F H _ fh => by
  unfold rngD
  refine ⟨fun d hd => ?_, fun e => ?_⟩
  · have hi := lt_of_get hd
    rw [List.length_map, List.length_range] at hi
    rw [List.getElem?_map, List.getElem?_range hi] at hd
    cases hd
    refine ⟨hi, fun y H' hy => ?_⟩
    obtain ⟨rfl, rfl⟩ := hy
    exact ⟨F, Stp.refl fh, .int _⟩
  · rw [List.length_map, List.length_range] at e
    exact Nat.le_of_eq e.symm
def iRg1 (wa : WA) : WI := fun env er q => wa env er fun ds => match ds with
  | [.int n] => -(2 ^ 62) ≤ n ∧ n < 2 ^ 62 ∧ q (rngD 0 n.toNat)
  | _ => False
theorem simi_rng1 {ta : TA} {wa : WA} (h : SimA K E ta wa) : SimI K E (iRng1 ta) (iRg1 wa) := fun B env F σ H R er q a l w k =>
  h B env F σ H _ er _ a l w fun xs ds F1 H1 s1 r1 w1 => by
    split at w1
    · cases r1 with
      | cons r1 r2 =>
        cases r1
        cases r2
        exact ⟨_, rfl, w1.1, w1.2.1, k _ _ F1 H1 s1 wk_rng w1.2.2⟩
    · exact w1.elim
def iRg2 (wa : WA) : WI := fun env er q => wa env er fun ds => match ds with
  | [.int i, .int j] => (-(2 ^ 62) ≤ i ∧ i < 2 ^ 62 ∧ -(2 ^ 62) ≤ j ∧ j < 2 ^ 62) ∧ q (rngD i (j - i).toNat)
  | _ => False
def iSt (we : WE) : WI := fun env er q => we env er fun d => match d with
  | .str x => q (x.cps.toList.map fun c => .str ⟨#[c]⟩)
  | _ => False

/-! ### while -/

/-! ### comprehensions -/
def wipeE (env : EV) : List Nat → EV
  | [] => env
  | v :: vs => (wipeE env vs).set v .un
theorem At.wipe {B : Ent} {env : EV} {F H : Hp} {σ : St} (a : At K B env F σ H) : ∀ vs : List Nat, At K B (wipeE env vs) F (wipe σ vs) H
  | [] => a
  | v :: vs => (At.wipe a vs).unset none
theorem wipe_get {σ : St} {i : Nat} : ∀ {vs : List Nat}, i ∉ vs → (wipe σ vs)[i]? = σ[i]?
  | [], _ => rfl
  | v :: vs, h => by
    unfold wipe
    rw [List.getElem?_set_ne (fun z => h (by simp [z])), wipe_get (fun z => h (by simp [z]))]
theorem wipe_in {σ : St} {i : Nat} : ∀ {vs : List Nat}, i ∈ vs → i < σ.length → (wipe σ vs)[i]? = some none
  | v :: vs, h, hl => by
    unfold wipe
    by_cases e : v = i
    · subst e
      rw [List.getElem?_set_self (by rw [wipe_length]; exact hl)]
    · rw [List.getElem?_set_ne e]
      refine wipe_in ?_ hl
      rcases List.mem_cons.mp h with z | z
      · exact absurd z.symm e
      · exact z
theorem wipe_eq {σ σ2 : St} {vs js : List Nat} (hj : ∀ j ∈ js, j ∈ vs) (hl : σ2.length = (wipe σ vs).length) (h : ∀ i, i ∉ js → σ2[i]? = (wipe σ vs)[i]?) : wipe σ2 vs = wipe σ vs := by
  have hl2 : σ2.length = σ.length := by rw [hl, wipe_length]
  apply List.ext_getElem?
  intro i
  by_cases hi : i ∈ vs
  · by_cases hlt : i < σ.length
    · rw [wipe_in hi (by rw [hl2]; exact hlt), wipe_in hi hlt]
    · rw [List.getElem?_eq_none (by rw [wipe_length, hl2]; omega), List.getElem?_eq_none (by rw [wipe_length]; omega)]
  · rw [wipe_get hi, h i (fun z => hi (hj i z))]
def wComp (g : D → EV → (EV → Prop) → Prop) (wt : WT) (we : WE) (ew : EV) (er : ER) (q : List D → Prop) : List D → List D → Prop
  | [], acc => q acc
  | x :: r, acc => g x ew fun env2 => wt env2 er fun b => (b = true → we env2 er fun y => acc.length < sizeLine ∧ wComp g wt we ew er q r (acc ++ [y])) ∧ (b = false → wComp g wt we ew er q r acc)
def wLc (wi : WI) (g : D → EV → (EV → Prop) → Prop) (wt : WT) (we : WE) (vs : List Nat) : WO := fun env er q => wi env er fun ds => wComp g wt we (wipeE env vs) er q ds []
theorem simo_lc {wi : TI} {wl : WI} {js vs : List Nat} {tg : TG} {g : D → EV → (EV → Prop) → Prop} (hl : SimI K E wi wl) (hg : SimG K js tg g) (ht : SimT K E tt wt) (he : SimE K E te we) (hj : ∀ j ∈ js, j ∈ vs) :
    SimO K E (tLc wi tg tt te vs) (wLc wl g wt we vs) := fun B env F σ H Q er q a l w k =>
  hl B env F σ H _ er _ a l w fun J ds F1 H1 s1 wk w2 => fun Dl hD => by
    have a1 := a.step s1
    have hDF : F1 Dl = none := s1.fh.free hD
    have hDH : Fre H Dl := s1.hh.fr _ (.inl hD)
    obtain ⟨P, hP⟩ : ∃ P : Nat → Hp → Prop, P = fun i H' => ∃ (F' : Hp) (acc : List D) (xs : List V), Stp F1 F' H1 H' ∧ H' Dl = some (.lst xs) ∧ F' Dl = none ∧ RepA K F' xs acc ∧ wComp g wt we (wipeE env vs) er q (ds.drop i) acc := ⟨_, rfl⟩
    refine ⟨fun i m H' => m = ds.length - i ∧ i ≤ ds.length ∧ P i H', ⟨ds.length, by simp, Nat.zero_le _, by rw [hP]; exact ⟨F1, [], [], Stp.fresh s1.fh hD, upd_same, hDF, .nil, by rw [List.drop_zero]; exact w2⟩⟩, ?_⟩
    rintro i m H' ⟨rfl, hi, h⟩
    rw [hP] at h
    obtain ⟨F', acc, xs, s', h1, h2, r, wz⟩ := h
    obtain ⟨k1, k2⟩ := wk i F' H' s'.ff s'.fh
    by_cases hlt : i < ds.length
    · obtain ⟨dy, hd⟩ : ∃ dy, ds[i]? = some dy := ⟨_, List.getElem?_eq_getElem hlt⟩
      obtain ⟨kg, ky⟩ := k1 dy hd
      refine .inr ⟨kg, P (i + 1), fun H2 p2 => ⟨ds.length - (i + 1), by omega, rfl, hlt, p2⟩, fun y H2 hy => ?_⟩
      obtain ⟨F2, s2, ry⟩ := ky y H2 hy
      rw [drop_get hd] at wz
      have aw : At K B (wipeE env vs) F2 (wipe σ vs) H2 := ((a1.step s').step s2).wipe vs
      refine hg B _ F2 _ H2 y dy _ _ aw ry wz fun env2 σ2 a2 len2 off w3 => ⟨wipe_eq hj len2 off, ?_⟩
      · refine ht B env2 F2 σ2 H2 _ er _ a2 l w3 fun b F3 H3 s3 w4 => ?_
        have d3 : H3 Dl = some (.lst xs) := s3.hh.get (s2.hh.get h1)
        have f3 : F3 Dl = none := s3.nw _ (s2.nw _ h2 ⟨_, h1, trivial⟩) ⟨_, s2.hh.get h1, trivial⟩
        cases b with
        | true =>
          show (if true = true then _ else _)
          rw [if_pos rfl]
          refine he B env2 F3 σ2 H3 _ er _ (a2.step s3) l (w4.1 rfl) fun z dz F4 H4 s4 r4 w5 => ?_
          have d4 : H4 Dl = some (.lst xs) := s4.hh.get d3
          have f4 : F4 Dl = none := s4.nw _ f3 ⟨_, d3, trivial⟩
          refine ⟨xs, d4, by rw [r.len]; exact w5.1, ?_⟩
          rw [hP]
          have st := ((s'.trans s2).trans s3).trans s4
          exact ⟨F4, acc ++ [dz], xs ++ [z], st.mut (.inl hD) f4 d4, upd_same, f4, (RepA.mono ((s2.trans s3).trans s4).ff r).app (.one r4), w5.2⟩
        | false =>
          show (if false = true then _ else _)
          rw [if_neg Bool.false_ne_true, hP]
          exact ⟨F3, acc, xs, (s'.trans s2).trans s3, d3, f3, RepA.mono (s2.trans s3).ff r, w4.2 rfl⟩
    · have e : i = ds.length := by omega
      subst e
      rw [List.drop_length] at wz
      exact .inl ⟨k2 rfl, k Dl xs acc F' H' (s1.trans s') hDH h1 h2 r wz⟩
end
end DL
/-! DL3: operators, subscripts, built-ins over data; a def's promise. -/
namespace DL
open PySem L2
variable [Tbl]
section
variable {K : PySem.W.Frag} {E : XK} {ta tb tc te : TE} {wa wb wc we : WE} {X : Cx}

/-! ### + - * // % ** -/
def rAddD (K : PySem.W.Frag) : R2 := fun x y H Q => (rI0 (fun i j => .int (i + j))) x y H Q ∨ (∃ i j, x = .str i ∧ y = .str j ∧ i.length + j.length ≤ sizeLine ∧ Q (.str (i ++ j)) H) ∨ rCat x y H Q ∨ rCatA K x y H Q
theorem op_addD : OpR X (binaryOp .Add) (rAddD X.K) := OpR.or op_add (OpR.or op_add_str (OpR.or op_cat op_catA))
def dAdd : D → D → (D → Prop) → Prop
  | .int i, .int j, q => q (.int (i + j))
  | .str s, .str t, q => s.length + t.length ≤ sizeLine ∧ q (.str (s ++ t))
  | .lst a, .lst b, q => a.length + b.length ≤ sizeLine ∧ q (.lst (a ++ b))
  | .tup a, .tup b, q => a.length + b.length ≤ sizeLine ∧ q (.tup (a ++ b))
  | _, _, _ => False
theorem sim_add : Sim2 K (rAddD K) dAdd := fun F H x y d e Q q s r1 r2 w k => by
  cases r1 with
  | int i =>
    cases r2 with
    | int j => exact .inl ⟨i, j, rfl, rfl, k.here s (.int _) w⟩
    | _ => exact w.elim
  | str i =>
    cases r2 with
    | str j => exact .inr (.inl ⟨i, j, rfl, rfl, w.1, k.here s (.str _) w.2⟩)
    | _ => exact w.elim
  | lst h1 a1 =>
    cases r2 with
    | lst h2 a2 =>
      exact .inr (.inr (.inl ⟨_, _, _, _, rfl, rfl, s _ _ h1, s _ _ h2, by rw [a1.len, a2.len]; exact w.1, fun p hp =>
        k _ _ _ _ (Stp.new s hp) (.lst upd_same ((a1.app a2).mono (same_new (s.free hp)))) w.2⟩))
    | _ => exact w.elim
  | @tup a1 xs1 l1 h1 a1' =>
    cases r2 with
    | @tup a2 xs2 l2 h2 a2' =>
      refine .inr (.inr (.inr ⟨_, _, _, _, rfl, rfl, same_t s h1, same_t s h2, by rw [a1'.len, a2'.len]; exact w.1, fun e => ?_, fun _ e => ?_, fun _ _ p hp => ?_⟩))
      · subst e
        cases a1'
        exact k.here s (.tup h2 a2') w.2
      · subst e
        cases a2'
        have w2 := w.2
        rw [List.append_nil] at w2
        exact k.here s (.tup h1 a1') w2
      · exact k _ _ _ _ (Stp.new s hp) (.tup (.inl (.inl upd_same)) ((a1'.app a2').mono (same_new (s.free hp)))) w.2
    | _ => exact w.elim
  | _ => exact w.elim
def dSub : D → D → (D → Prop) → Prop
  | .int i, .int j, q => q (.int (i - j))
  | _, _, _ => False
def rMulD : R2 := fun x y H Q => (rI CMul fun i j => .int (i * j)) x y H Q ∨ (rI CMulW fun i j => .int (i * j)) x y H Q ∨ rRep x y H Q
theorem op_mulD : OpR X (binaryOp .Mult) rMulD := OpR.or op_mul (OpR.or op_mulW op_rep)
def dMul : D → D → (D → Prop) → Prop
  | .int i, .int j, q => (CMul i j ∨ CMulW i j) ∧ q (.int (i * j))
  | .lst l, .int k, q => (-(2 ^ 63) ≤ k ∧ k < 2 ^ 63 ∧ l.length * k.toNat ≤ sizeLine) ∧ q (.lst (List.replicate k.toNat l).flatten)
  | _, _, _ => False
theorem RepA.rep {F : Hp} {v : List V} {d : List D} (h : RepA K F v d) : ∀ n : Nat, RepA K F (List.replicate n v).flatten (List.replicate n d).flatten
  | 0 => .nil
  | n + 1 => by
    rw [List.replicate_succ, List.flatten_cons, List.replicate_succ, List.flatten_cons]
    exact h.app (RepA.rep h n)
theorem sim_mul : Sim2 K rMulD dMul := fun F H x y d e Q q s r1 r2 w k => by
  cases r1 with
  | int i =>
    cases r2 with
    | int j =>
      rcases w.1 with c | c
      · exact .inl ⟨i, j, rfl, rfl, c, k.here s (.int _) w.2⟩
      · exact .inr (.inl ⟨i, j, rfl, rfl, c, k.here s (.int _) w.2⟩)
    | _ => exact w.elim
  | lst h1 a1 =>
    cases r2 with
    | int j =>
      exact .inr (.inr ⟨_, j, _, rfl, rfl, s _ _ h1, w.1.1, w.1.2.1, by rw [a1.len]; exact w.1.2.2, fun p hp => k _ _ _ _ (Stp.new s hp) (.lst upd_same ((a1.rep _).mono (same_new (s.free hp)))) w.2⟩)
    | _ => exact w.elim
  | _ => exact w.elim
abbrev rDivD : R2 := rI CDivW fun i j => .int (i / j)
def dDiv : D → D → (D → Prop) → Prop
  | .int i, .int j, q => CDivW i j ∧ q (.int (i / j))
  | _, _, _ => False
theorem op_divD : OpR X (binaryOp .FloorDiv) rDivD := op_fdivW
abbrev rModD : R2 := rI (fun _ j => 0 < j) fun i j => .int (i % j)
def dMod : D → D → (D → Prop) → Prop
  | .int i, .int j, q => 0 < j ∧ q (.int (i % j))
  | _, _, _ => False
theorem op_modD : OpR X (binaryOp .Mod) rModD := op_mod
theorem sim_mod : Sim2 K rModD dMod := fun F H x y d e Q q s r1 r2 w k => by
  cases r1 with
  | int i =>
    cases r2 with
    | int j => exact ⟨i, j, rfl, rfl, w.1, k.here s (.int _) w.2⟩
    | _ => exact w.elim
  | _ => exact w.elim
abbrev rPowD : R2 := rI CPow fun i j => .int (i ^ j.toNat)
def dPow : D → D → (D → Prop) → Prop
  | .int i, .int j, q => CPow i j ∧ q (.int (i ^ j.toNat))
  | _, _, _ => False
theorem op_powD : OpR X (binaryOp .Pow) rPowD := op_pow
theorem sim_pow : Sim2 K rPowD dPow := fun F H x y d e Q q s r1 r2 w k => by
  cases r1 with
  | int i =>
    cases r2 with
    | int j => exact ⟨i, j, rfl, rfl, w.1, k.here s (.int _) w.2⟩
    | _ => exact w.elim
  | _ => exact w.elim
abbrev rNegD : V → Hp → VK → Prop := rU fun i => .int (-i)
def dNeg : D → (D → Prop) → Prop
  | .int i, q => q (.int (-i))
  | _, _ => False
theorem un_negD : UnR X (unaryOp .USub) rNegD := un_neg
theorem sim_neg : Sim1 K rNegD dNeg := fun F H x d Q q s r w k => by
  cases r with
  | int i => exact ⟨i, rfl, k.here s (.int _) w⟩
  | _ => exact w.elim

/-! ### comparisons -/
def rLtD : R2 := fun x y H Q => (rI0 fun i j => .bl (decide (i < j))) x y H Q ∨ (∃ i j, x = .str i ∧ y = .str j ∧ Q (.bl (decide (i.cps.toList < j.cps.toList))) H)
theorem op_ltD : OpR X (compareOp .Lt) rLtD := OpR.or op_lt op_lt_str
def dLt : D → D → (D → Prop) → Prop
  | .int i, .int j, q => q (.bl (decide (i < j)))
  | .str i, .str j, q => q (.bl (decide (i.cps.toList < j.cps.toList)))
  | _, _, _ => False
theorem sim_lt : Sim2 K rLtD dLt := fun F H x y d e Q q s r1 r2 w k => by
  cases r1 with
  | int i =>
    cases r2 with
    | int j => exact .inl ⟨i, j, rfl, rfl, k.here s (.bl _) w⟩
    | _ => exact w.elim
  | str i =>
    cases r2 with
    | str j => exact .inr ⟨i, j, rfl, rfl, k.here s (.bl _) w⟩
    | _ => exact w.elim
  | _ => exact w.elim
def dLe : D → D → (D → Prop) → Prop
  | .int i, .int j, q => q (.bl (decide (i ≤ j)))
  | .str i, .str j, q => q (.bl (!decide (j.cps.toList < i.cps.toList)))
  | _, _, _ => False
abbrev rGtD : R2 := rI0 fun i j => .bl (decide (j < i))
theorem op_gtD : OpR X (compareOp .Gt) rGtD := op_gt
def dGt : D → D → (D → Prop) → Prop
  | .int i, .int j, q => q (.bl (decide (j < i)))
  | _, _, _ => False
abbrev rGeD : R2 := rI0 fun i j => .bl (decide (j ≤ i))
theorem op_geD : OpR X (compareOp .GtE) rGeD := op_ge
def dGe : D → D → (D → Prop) → Prop
  | .int i, .int j, q => q (.bl (decide (j ≤ i)))
  | _, _, _ => False
theorem sim_ge : Sim2 K rGeD dGe := fun F H x y d e Q q s r1 r2 w k => by
  cases r1 with
  | int i =>
    cases r2 with
    | int j => exact ⟨i, j, rfl, rfl, k.here s (.bl _) w⟩
    | _ => exact w.elim
  | _ => exact w.elim
def isNon : D → Bool
  | .non => true
  | _ => false
abbrev rIsND : R2 := fun x y H Q => y = .non ∧ Q (.bl (decide (x = .non))) H
def dIsN : D → D → (D → Prop) → Prop := fun d e q => match e with
  | .non => q (.bl (isNon d))
  | _ => False
abbrev rNotND : R2 := fun x y H Q => y = .non ∧ Q (.bl (!decide (x = .non))) H
def dNotN : D → D → (D → Prop) → Prop := fun d e q => match e with
  | .non => q (.bl (!isNon d))
  | _ => False

/-! ### == of data -/
mutual
def pd : D → Option PyData
  | .non => some .none
  | .bl b => some (.bool b)
  | .int i => some (.int i)
  | .str x => some (.str x)
  | .tup l => (pdA l).map .tuple
  | .lst l => (pdA l).map .list
  | _ => none
def pdA : List D → Option (List PyData)
  | [] => some []
  | d :: r => match pd d, pdA r with
    | some p, some ps => some (p :: ps)
    | _, _ => none
end
mutual
theorem dp_of {F H : Hp} (s : Same F H) : ∀ {x : V} {d : D} {p : PyData}, Rep K F x d → pd d = some p → Dp K H x p
  | _, _, _, .non, e => by
    cases e
    exact .non
  | _, _, _, .bl b, e => by
    cases e
    exact .bl b
  | _, _, _, .int i, e => by
    cases e
    exact .int i
  | _, _, _, .str z, e => by
    cases e
    exact .str z
  | _, _, _, .ty n, e => by cases e
  | _, _, _, .tup (l := l) h r, e => by
    unfold pd at e
    cases h2 : pdA l with
    | none =>
      rw [h2] at e
      cases e
    | some ps =>
      rw [h2] at e
      cases e
      exact .tup (same_t s h) (dpA_of s r h2)
  | _, _, _, .lst (l := l) h r, e => by
    unfold pd at e
    cases h2 : pdA l with
    | none =>
      rw [h2] at e
      cases e
    | some ps =>
      rw [h2] at e
      cases e
      exact .lst (SqL.of (s _ _ h)) (dpA_of s r h2)
  | _, _, _, .ins _ _, e => by cases e
  | _, _, _, .dct _ _, e => by cases e
  | _, _, _, .tux _ _ _, e => by cases e
  | _, _, _, .exc _ _ _, e => by cases e
  | _, _, _, .fnv _ _ _ _, e => by cases e
  | _, _, _, .dci _ _, e => by cases e
  | _, _, _, .dcn _ _ _ _, e => by cases e
  | _, _, _, .lmv _ _, e => by cases e
  | _, _, _, .obj _, e => by cases e
  | _, _, _, .scr _, e => by cases e
  | _, _, _, .bag _, e => by cases e
theorem dpA_of {F H : Hp} (s : Same F H) : ∀ {xs : List V} {l : List D} {ps : List PyData}, RepA K F xs l → pdA l = some ps → DpAll K H xs ps
  | _, _, _, .nil, e => by
    cases e
    exact .nil
  | _, _, _, .cons (d := d) (ds := ds) h r, e => by
    unfold pdA at e
    cases h1 : pd d with
    | none =>
      rw [h1] at e
      cases e
    | some p =>
      cases h2 : pdA ds with
      | none =>
        rw [h1, h2] at e
        cases e
      | some ps =>
        rw [h1, h2] at e
        cases e
        exact .cons (dp_of s h h1) (dpA_of s r h2)
end
def okD (d : D) : Prop := match pd d with
  | some p => SeqAt.shaped p = true
  | none => False
def eqD (d e : D) : Bool := match pd d, pd e with
  | some p, some q => PyData.eqv p q
  | _, _ => false
def dEq : D → D → (D → Prop) → Prop := fun d e q => okD d ∧ okD e ∧ q (.bl (eqD d e))
def dNe : D → D → (D → Prop) → Prop := fun d e q => okD d ∧ okD e ∧ q (.bl (!eqD d e))
theorem sim_eq : Sim2 K (rEqD K) dEq := fun F H x y d e Q q s r1 r2 w k => by
  obtain ⟨w1, w2, w3⟩ := w
  unfold okD at w1 w2
  unfold eqD at w3
  cases h1 : pd d with
  | none =>
    rw [h1] at w1
    exact w1.elim
  | some p =>
    cases h2 : pd e with
    | none =>
      rw [h2] at w2
      exact w2.elim
    | some p' =>
      rw [h1] at w1 w3
      rw [h2] at w2 w3
      exact ⟨p, p', dp_of s r1 h1, dp_of s r2 h2, w1, w2, k.here s (.bl _) w3⟩
theorem sim_ne : Sim2 K (rNeD K) dNe := fun F H x y d e Q q s r1 r2 w k => by
  obtain ⟨w1, w2, w3⟩ := w
  unfold okD at w1 w2
  unfold eqD at w3
  cases h1 : pd d with
  | none =>
    rw [h1] at w1
    exact w1.elim
  | some p =>
    cases h2 : pd e with
    | none =>
      rw [h2] at w2
      exact w2.elim
    | some p' =>
      rw [h1] at w1 w3
      rw [h2] at w2 w3
      exact ⟨p, p', dp_of s r1 h1, dp_of s r2 h2, w1, w2, k.here s (.bl _) w3⟩

/-! ### subscripts, slices -/
def atD {α : Type} (xs : List α) (i : Int) : Option α := (ixN xs.length i).bind fun j => xs[j]?
theorem at_rep {F : Hp} {xs : List V} {l : List D} {i : Int} {d : D} (r : RepA K F xs l) (h : atD l i = some d) : ∃ x, atI xs i = some x ∧ Rep K F x d := by
  unfold atD at h
  unfold atI
  rw [r.len]
  cases e : ixN l.length i with
  | none =>
    rw [e] at h
    cases h
  | some j =>
    rw [e] at h
    exact r.getD h
def dIx : D → D → (D → Prop) → Prop
  | .lst l, .int i, q => match atD l i with
    | some d => q d
    | none => False
  | .tup l, .int i, q => match atD l i with
    | some d => q d
    | none => False
  | .scr l, .int i, q => match atD l i with
    | some d => q (.int d)
    | none => False
  | .str x, .int i, q => x.length ≤ sizeLine ∧ match atD x.cps.toList i with
    | some c => q (.str ⟨#[c]⟩)
    | none => False
  | _, _, _ => False
theorem sim_ix : Sim2 K (rIx K) dIx := fun F H x y d e Q q s r1 r2 w k => by
  cases r2 with
  | int i =>
    cases r1 with
    | @lst a xs l h1 a1 =>
      have w : (match atD l i with | some d => q d | none => False) := w
      cases e : atD l i with
      | none =>
        rw [e] at w
        exact w.elim
      | some d =>
        rw [e] at w
        obtain ⟨z, ez, rz⟩ := at_rep a1 e
        exact .inl ⟨a, xs, i, z, rfl, rfl, SqL.of (s _ _ h1), ez, k.here s rz w⟩
    | @tup a xs l h1 a1 =>
      have w : (match atD l i with | some d => q d | none => False) := w
      cases e : atD l i with
      | none =>
        rw [e] at w
        exact w.elim
      | some d =>
        rw [e] at w
        obtain ⟨z, ez, rz⟩ := at_rep a1 e
        exact .inr (.inl ⟨a, xs, i, z, rfl, rfl, same_t s h1, ez, k.here s rz w⟩)
    | @scr a l h1 =>
      have w : (match atD l i with | some d => q (.int d) | none => False) := w
      cases e : atD l i with
      | none =>
        rw [e] at w
        exact w.elim
      | some d =>
        rw [e] at w
        refine .inl ⟨a, _, i, .int d, rfl, rfl, s.seq h1, ?_, k.here s (.int d) w⟩
        unfold atI
        unfold atD at e
        rw [List.length_map]
        cases e2 : ixN l.length i with
        | none =>
          rw [e2] at e
          cases e
        | some j =>
          rw [e2] at e
          show (l.map V.int)[j]? = _
          rw [List.getElem?_map, show l[j]? = some d from e]
          rfl
    | str x =>
      have w2 : (match atD x.cps.toList i with | some c => q (.str ⟨#[c]⟩) | none => False) := w.2
      cases e : atD x.cps.toList i with
      | none =>
        rw [e] at w2
        exact w2.elim
      | some c =>
        rw [e] at w2
        exact .inr (.inr ⟨x, i, c, rfl, rfl, w.1, e, k.here s (.str _) w2⟩)
    | _ => exact w.elim
  | _ => cases r1 <;> exact w.elim
/-- an item of one's own list -/
def wIxL (wo : WO) (wb : WE) : WE := fun env er q => wo env er fun l => wb env er fun y => match y with
  | .int i => match atD l i with
    | some d => q d
    | none => False
  | _ => False
abbrev WP := EV → ER → (Option Int → Prop) → Prop
def SimP (K : PySem.W.Frag) (E : XK) (tp : TO) (w : WP) : Prop := ∀ (B : Ent) (env : EV) (F : Hp) (σ : St) (H : Hp) (Q : Option Int → Hp → Prop) (er : ER) (q : Option Int → Prop), At K B env F σ H → EL K B E er → w env er q →
  (∀ (o : Option Int) (F' H' : Hp), Stp F F' H H' → q o → Q o H') → tp σ H Q
def wNoP : WP := fun _ _ q => q none
theorem simp_no : SimP K E tNoPart wNoP := fun B env F σ H Q er q a l w k => k none F H (Stp.refl a.fh) w
def wPart (wa : WE) : WP := fun env er q => wa env er fun x => match x with
  | .int i => q (some i)
  | _ => False
theorem simp_part (h : SimE K E ta wa) : SimP K E (tPart ta) (wPart wa) := fun B env F σ H Q er q a l w k => h B env F σ H _ er _ a l w fun x d F1 H1 s1 r1 w1 => by
  cases r1 with
  | int i => exact ⟨i, rfl, k _ F1 H1 s1 w1⟩
  | _ => exact w1.elim
def cutD {α : Type} (xs : List α) (lo hi : Option Int) : List α := (xs.drop (HT.sIx xs.length 0 lo)).take (HT.sIx xs.length xs.length hi - HT.sIx xs.length 0 lo)
theorem RepA.cut {F : Hp} {v : List V} {d : List D} (h : RepA K F v d) (lo hi : Option Int) : RepA K F (cutV v lo hi) (cutD d lo hi) := by
  unfold cutV cutD
  rw [h.len]
  exact (h.drop _).take _
theorem cut_whole {α : Type} {xs : List α} {lo hi : Option Int} (h : HT.sIx xs.length 0 lo = 0 ∧ HT.sIx xs.length xs.length hi = xs.length) : cutD xs lo hi = xs := by
  unfold cutD
  rw [h.1, h.2, List.drop_zero, Nat.sub_zero, List.take_length]
def rSlD (K : PySem.W.Frag) : V → Option Int → Option Int → Hp → VK → Prop := fun x lo hi H Q => rSlL K x lo hi H Q ∨ rSlA K x lo hi H Q ∨ rSlS x lo hi H Q
theorem sl_D : SlR X (rSlD X.K) := SlR.or sl_list (SlR.or sl_tupA sl_str)
def dSl : D → Option Int → Option Int → (D → Prop) → Prop
  | .lst l, lo, hi, q => q (.lst (cutD l lo hi))
  | .scr l, lo, hi, q => q (.lst ((cutD l lo hi).map .int))
  | .tup l, lo, hi, q => q (.tup (cutD l lo hi))
  | .str x, lo, hi, q => x.length ≤ sizeLine ∧ q (.str (cutS x lo hi))
  | _, _, _, _ => False
def wSl (we : WE) (wl wh : WP) : WE := fun env er q => we env er fun x => wl env er fun lo => wh env er fun hi => dSl x lo hi q
theorem cut_map (ns : List Int) (lo hi : Option Int) : cutV (ns.map V.int) lo hi = (cutD ns lo hi).map V.int := by
  unfold cutV cutD
  rw [List.length_map, List.map_take, List.map_drop]
theorem sim_sl {tl th : TO} {wl wh : WP} (h : SimE K E te we) (hl : SimP K E tl wl) (hh : SimP K E th wh) : SimE K E (tSl (rSlD K) te tl th) (wSl we wl wh) := fun B env F σ H Q er q a l w k =>
  h B env F σ H _ er _ a l w fun x d F1 H1 s1 r1 w1 => hl B env F1 σ H1 _ er _ (a.step s1) l w1 fun lo F2 H2 s2 w2 => hh B env F2 σ H2 _ er _ (a.step (s1.trans s2)) l w2 fun hi F3 H3 s3 w3 => by
    have k3 := k.step ((s1.trans s2).trans s3)
    have r3 := (r1.mono s2.ff).mono s3.ff
    cases r3 with
    | lst h1 a1 => exact .inl ⟨_, _, rfl, SqL.of (s3.fh _ _ h1), fun p hp => k3 _ _ _ _ (Stp.new s3.fh hp) (.lst upd_same ((a1.cut lo hi).mono (same_new (s3.fh.free hp)))) w3⟩
    | scr h1 => exact .inl ⟨_, _, rfl, s3.fh.seq h1, fun p hp => k3 _ _ _ _ (Stp.new s3.fh hp) (.lst upd_same (by rw [cut_map]; exact RepA.ints _)) w3⟩
    | @tup a xs l h1 a1 =>
      refine .inr (.inl ⟨_, _, rfl, same_t s3.fh h1, fun e => ?_, fun _ p hp => ?_⟩)
      · rw [a1.len] at e
        have e2 : cutD l lo hi = l := cut_whole e
        have w4 : q (.tup (cutD l lo hi)) := w3
        rw [e2] at w4
        exact k3.here s3.fh (.tup h1 a1) w4
      · exact k3 _ _ _ _ (Stp.new s3.fh hp) (.tup (.inl (.inl upd_same)) ((a1.cut lo hi).mono (same_new (s3.fh.free hp)))) w3
    | str x => exact .inr (.inr ⟨x, rfl, w3.1, k3.here s3.fh (.str _) w3.2⟩)
    | _ => exact w3.elim
/-- xs[a:b] of one's own list, a new list -/
def wSlO (wo : WO) (wl wh : WP) : WO := fun env er q => wo env er fun x => wl env er fun lo => wh env er fun hi => q (cutD x lo hi)
/-- xs[::-1] -/
def wRev (we : WE) : WE := fun env er q => we env er fun x => match x with
  | .lst l => q (.lst l.reverse)
  | _ => False

/-! ### built-ins -/
abbrev rLenD (K : PySem.W.Frag) : List V → Hp → VK → Prop := fun xs H Q => ∃ x n, xs = [x] ∧ LenV K x H n ∧ Q (.int n) H
def dLen : List D → (D → Prop) → Prop
  | [.lst l], q => q (.int (l.length : Nat))
  | [.tup l], q => q (.int (l.length : Nat))
  | [.scr l], q => q (.int (l.length : Nat))
  | [.str x], q => x.length ≤ sizeLine ∧ q (.int (x.length : Nat))
  | _, _ => False
theorem sim_len : SimC K (rLenD K) dLen := fun F H xs ds Q q s r w k => by
  cases r with
  | nil => exact w.elim
  | cons r1 r2 =>
    cases r2 with
    | cons _ _ => cases r1 <;> exact w.elim
    | nil =>
      cases r1 with
      | lst h1 a1 => exact ⟨_, _, rfl, .inl ⟨_, SqL.of (s _ _ h1), a1.len.symm⟩, k.here s (.int _) w⟩
      | tup h1 a1 => exact ⟨_, _, rfl, .inr ⟨_, same_t s h1, a1.len.symm⟩, k.here s (.int _) w⟩
      | scr h1 => exact ⟨_, _, rfl, .inl ⟨_, s.seq h1, by rw [List.length_map]⟩, k.here s (.int _) w⟩
      | str x => exact ⟨_, _, rfl, ⟨w.1, rfl⟩, k.here s (.int _) w.2⟩
      | _ => exact w.elim
def lLen : List D → (D → Prop) → Prop := fun l q => q (.int (l.length : Nat))
def bools : List D → Option (List Bool)
  | [] => some []
  | .bl b :: r => (bools r).map (b :: ·)
  | _ => none
theorem bools_rep {F : Hp} : ∀ {xs : List V} {l : List D} {bs : List Bool}, RepA K F xs l → bools l = some bs → xs = bs.map V.bl
  | _, [], _, .nil, e => by
    cases e
    rfl
  | _, d :: l, bs, .cons h r, e => by
    cases h with
    | bl b =>
      unfold bools at e
      cases h2 : bools l with
      | none =>
        rw [h2] at e
        cases e
      | some cs =>
        rw [h2] at e
        cases e
        rw [bools_rep r h2]
        rfl
    | _ => cases e
def lAll : List D → (D → Prop) → Prop := fun l q => match bools l with
  | some bs => q (.bl (bs.all id))
  | none => False
theorem sim_allL : SimCL K (rAll K) lAll := fun F H a xs l Q q s h r w k => by
  unfold lAll at w
  split at w
  · rename_i bs e
    rw [bools_rep r e] at h
    exact ⟨a, bs, rfl, h, k.here s (.bl _) w⟩
  · exact w.elim
def lTup : List D → (D → Prop) → Prop := fun l q => q (.tup l)
abbrev rIntD : List V → Hp → VK → Prop := fun xs H Q => (∃ i, xs = [.int i] ∧ Q (.int i) H) ∨ ∃ k, xs = [.bl k] ∧ Q (.int (if k then 1 else 0)) H
def dInt : List D → (D → Prop) → Prop
  | [.int i], q => q (.int i)
  | _, _ => False
theorem sim_toInt : SimC K rIntD dInt := fun F H xs ds Q q s r w k => by
  unfold dInt at w
  split at w
  · cases r with
    | cons r1 r2 =>
      cases r1
      cases r2
      exact .inl ⟨_, rfl, k.here s (.int _) w⟩
  · exact w.elim
abbrev rAbsD : List V → Hp → VK → Prop := fun xs H Q => ∃ i, xs = [.int i] ∧ Q (.int (if i < 0 then -i else i)) H
def dAbs : List D → (D → Prop) → Prop
  | [.int i], q => q (.int (if i < 0 then -i else i))
  | _, _ => False
theorem sim_abs : SimC K rAbsD dAbs := fun F H xs ds Q q s r w k => by
  unfold dAbs at w
  split at w
  · cases r with
    | cons r1 r2 =>
      cases r1
      cases r2
      exact ⟨_, rfl, k.here s (.int _) w⟩
  · exact w.elim
abbrev rMax2D : List V → Hp → VK → Prop := fun xs H Q => ∃ i j, xs = [.int i, .int j] ∧ Q (.int (if j > i then j else i)) H
def dMax2 : List D → (D → Prop) → Prop
  | [.int i, .int j], q => q (.int (if j > i then j else i))
  | _, _ => False
theorem sim_max2 : SimC K rMax2D dMax2 := fun F H xs ds Q q s r w k => by
  unfold dMax2 at w
  split at w
  · cases r with
    | cons r1 r2 =>
      cases r1
      cases r2 with
      | cons r2 r3 =>
        cases r2
        cases r3
        exact ⟨_, _, rfl, k.here s (.int _) w⟩
  · exact w.elim
abbrev rMin2D : List V → Hp → VK → Prop := fun xs H Q => ∃ i j, xs = [.int i, .int j] ∧ Q (.int (if j < i then j else i)) H
def dMin2 : List D → (D → Prop) → Prop
  | [.int i, .int j], q => q (.int (if j < i then j else i))
  | _, _ => False
theorem sim_min2 : SimC K rMin2D dMin2 := fun F H xs ds Q q s r w k => by
  unfold dMin2 at w
  split at w
  · cases r with
    | cons r1 r2 =>
      cases r1
      cases r2 with
      | cons r2 r3 =>
        cases r2
        cases r3
        exact ⟨_, _, rfl, k.here s (.int _) w⟩
  · exact w.elim

/-! ### isinstance -/
structure OwnC (K : PySem.W.Frag) (C : Addr) : Prop where
  cl : Cls K C
  ha : PySem.W.findIn K (.ref C) "__class__" = some (some (.builtin "object.__class__"))
  hn : PySem.W.specialIn K (.builtin "object.__class__") "__get__" = some (some (.builtin "getset_descriptor.__get__"))
  htk : PySem.W.takesIn K (.builtin "object.__class__") = some true
  hm : PySem.W.mroIn K C (.type "object") = some true
end

/-! ### a def keeps its promise -/
open PySem.Spec PyProof.Rows
def envOf (n : Nat) (ds : List D) : EV := ds.map .d ++ List.replicate (n - ds.length) .un
theorem start_at {K : PySem.W.Frag} {N : List Str} {F H : Hp} {vs : List V} {ds : List D} (s : Fz F H) (r : RepA K F vs ds) (hl : ds.length ≤ N.length) : At K ⟨F, H⟩ (envOf N.length ds) F (L2.start N vs) H := by
  have hlen := r.len
  refine ⟨?_, Stp.refl s, fun i sv e => ?_, fun i j t u b e1 e2 m1 _ _ _ => ?_⟩
  · unfold L2.start envOf
    rw [List.length_append, List.length_append, List.length_map, List.length_map, List.length_replicate, List.length_replicate, hlen]
  · unfold envOf at e
    by_cases hi : i < ds.length
    · rw [List.getElem?_append_left (by rw [List.length_map]; exact hi), List.getElem?_map] at e
      cases e2 : ds[i]? with
      | none =>
        rw [e2] at e
        cases e
      | some d =>
        rw [e2] at e
        cases e
        obtain ⟨x, hx, rx⟩ := r.getD e2
        refine ⟨x, ?_, rx⟩
        unfold L2.start
        rw [List.getElem?_append_left (by rw [List.length_map, hlen]; exact hi), List.getElem?_map, hx]
        rfl
    · rw [List.getElem?_append_right (by rw [List.length_map]; omega)] at e
      have z := List.mem_replicate.mp (List.mem_of_getElem? e)
      rw [z.2]
      trivial
  · exfalso
    unfold envOf at e1
    have z := List.mem_of_getElem? e1
    rcases List.mem_append.mp z with z | z
    · obtain ⟨d, _, rfl⟩ := List.mem_map.mp z
      exact m1
    · rw [(List.mem_replicate.mp z).2] at m1
      exact m1
theorem body_of {K : PySem.W.Frag} {N : List Str} {n : Nat} {S : FS} {t : TS} {w : WS} {vs : List V} {H : Hp} {Q : VK} {E : XK} (ht : SimS K E t w) (hn : n ≤ N.length)
    (hw : ∀ ds er q, ds.length = n → S ds er q → w { nx := fun _ => q .non, rt := q, er := er } (envOf N.length ds)) (h : spOf K n S vs H Q E) : t { nx := fun _ H' => Q .non H', rt := Q } (L2.start N vs) H := by
  obtain ⟨F, ds, er, q, hl, s, r, hS, kv, ke⟩ := h
  exact ht ⟨F, H⟩ _ _ ⟨fun env F' σ H' a z => kv _ _ F' H' a.st .non z, fun x d F' H' st r z => kv x d F' H' st r z, fun _ _ _ _ _ z => False.elim z, fun _ _ _ _ _ z => False.elim z, ke⟩ _ F _ H (start_at s r (by omega)) (hw ds er q hl hS)
section
variable {P : Program} {w : World} {K : PySem.W.Frag} {mg : Str → Option Value} {base : Heap}
theorem ok_def {x qual : Str} {st : Stmt} {f : Addr} {fd : FuncData} {N ps : List Str} {k : Nat} {S : FS} (F : Fun K x qual st f fd) (sc : FnScope N ps (defScope st)) (hn : ps.length ≤ N.length)
    (hb : ∀ (cdv : Value) (A : Around) (outer : List Env) (s : Shared) (H : Hp) (E : XK), Room k (A.deeper (envOfC qual (defScope st) s.heap.objs.size f cdv)) →
      ∃ t ws, PSs (cxOf (L2.CX P w) P w K mg base N qual (defScope st) f cdv A outer s H E) (defBody st) t ∧ SimS K E t ws ∧
        ∀ ds er q, ds.length = ps.length → S ds er q → ws { nx := fun _ => q .non, rt := q, er := er } (envOf N.length ds)) :
    FnOk P w K mg base (L2.CX P w) (k + 1) f fd ps (spOf K ps.length S) := by
  refine F.okX sc (fun vs H Q E h => spOf_len h) (fun cdv A outer s H vs Q E hr h => ?_)
  obtain ⟨t, ws, h1, h2, h3⟩ := hb cdv A outer s H E hr
  exact ⟨t, h1, body_of h2 hn h3 h⟩
end
end DL
/-! DLX: rules of my own over HandS: t[::-1] of a tuple, tuple * int, methods called with keywords, == and != by an own __eq__. -/
namespace HT
open PySem PySem.Spec PyProof.Rows
section
variable {prog : Program} {w : World} {A : Around} {E : Value → Shared → Prop} {s : Shared}
end
end HT
namespace DL
open PySem L2
variable [Tbl]
open PySem.Spec PyProof.Rows
/-! ### t[::-1] -/
def wRevT (we : WE) : WE := fun env er q => we env er fun x => match x with
  | .tup l => q (.tup l.reverse)
  | _ => False

/-! ### tuple * int, from 0 to 1000 -/
def rRepD (K : PySem.W.Frag) : R2 := fun x y H Q => ∃ l k xs, x = .ref l ∧ y = .int k ∧ SqT K H l xs ∧ xs ≠ [] ∧ 0 ≤ k ∧ k ≤ 1000 ∧ xs.length ≤ 1000 ∧
  (k = 1 → Q (.ref l) H) ∧ (k ≠ 1 → ∀ p, H p = none → Q (.ref p) (upd H p (.tup (List.replicate k.toNat xs).flatten)))
theorem tuple_mul1 (l : Addr) (items : Array Value) (n : Nat) (sl : Array (Option Value)) (u : Tok) :
    Meets (Builtin.«tuple.__mul__» ⟨[.ref l, .int 1 u], []⟩) (fun _ R s => ∃ dd, s.heap.get? l = some { cls := .type "tuple", dict := dd, data := .seq items n, slots := sl } ∧ R (.ok (.ret (Value.ref l))) s) :=
  .of_wp fun prog w A R s h => by
    obtain ⟨hp, g, d, tk, os⟩ := s
    obtain ⟨dd, hl, h⟩ := h
    have f1 := AutoSeq1.idx_int
    wp_walk using AutoSeq1.wpAny_loadPart' hl
    exact ⟨_, rfl, h⟩
theorem tuple_mul0 (l : Addr) (items : Array Value) (n : Nat) (dd : Option Addr) (sl : Array (Option Value)) (u : Tok) (c0 : items.isEmpty = false) :
    Meets (Builtin.«tuple.__mul__» ⟨[.ref l, .int 0 u], []⟩) (fun _ R s => s.heap.get? l = some { cls := .type "tuple", dict := dd, data := .seq items n, slots := sl } ∧ R (.ok (.ret (Value.ref s.heap.objs.size))) { s with heap := s.heap.push { cls := Value.type "tuple", data := Data.seq #[] }, toks := s.toks }) :=
  .of_wp fun prog w A R s h => by
    obtain ⟨hp, g, d, tk, os⟩ := s
    obtain ⟨hl, h⟩ := h
    have f1 := AutoSeq1.idx_int
    have c1 : (items.isEmpty || (0 : Int) == 1) = false := by
      rw [c0]
      rfl
    wp_walk using AutoSeq1.wpAny_loadPart' hl
    repeat (first
      | (refine wpAny_ite_false (decide_eq_false (by rw [c1]; exact Bool.false_ne_true)) ?_; wp_walk using AutoSeq1.wpAny_loadPart' hl))
    exact ⟨_, rfl, h⟩
section
variable {X : Cx}
theorem op_repD : OpR X (binaryOp .Mult) (rRepD X.K) := by
  intro pins s σ H x y v u Q I rx ry h
  obtain ⟨l, k, xs, rfl, rfl, hT, hne, h1, h2, hz, qa, qb⟩ := h
  by_cases k2 : 2 ≤ k
  · exact op_repT pins s σ H _ _ v u Q I rx ry ⟨l, k, xs, rfl, rfl, hT, hne, k2, h2, hz, qb (by omega)⟩
  · cases rx
    obtain ⟨t, rfl⟩ := ry
    obtain ⟨its, r, ⟨⟨cls, dd, data, sl⟩, ho, hc, n, hd⟩, hs⟩ := I.tuple hT
    simp only at hc hd
    subst hc hd
    have hle : its.length = xs.length := r.length.symm
    have hn : its ≠ [] := fun e => hne (by
      rw [e] at hle
      exact List.eq_nil_of_length_eq_zero hle.symm)
    have hi : its.toArray.isEmpty = false := by
      cases its with
      | nil => exact absurd rfl hn
      | cons a b => rfl
    refine wpAny_binaryOp_repeat_ref (T := "tuple") (U := "int") (by decide) ⟨_, ho, rfl⟩ (fun s' => typeIs_int s' k t) noFill_tuple_mul F.fills_int_mul F.slot_int_rmul repeat_tuple F.slot_int_index.lookup
      (call_meets F.slot_int_rmul (typeIs_int s k t) F.entry_int_rmul (F.args_int_rmul_2 _ _) (int_rmul_tuple k t l its.toArray n dd sl) ⟨ho, rfl, ⟨_, ho, rfl⟩, ?_⟩)
    by_cases k1 : k = 1
    · subst k1
      exact call_meets F.slot_tuple_mul ⟨_, ho, rfl⟩ F.entry_tuple_mul (F.args_tuple_mul_2 _ _) (tuple_mul1 l its.toArray n sl t) ⟨dd, ho, ⟨.ref l, H, I, rfl, qa rfl⟩⟩
    · have k0 : k = 0 := by omega
      subst k0
      refine call_meets F.slot_tuple_mul ⟨_, ho, rfl⟩ F.entry_tuple_mul (F.args_tuple_mul_2 _ _) (tuple_mul0 l its.toArray n dd sl t hi) ⟨ho, ?_⟩
      refine ⟨.ref s.heap.objs.size, _, I.laid (t' := s.toks) (o := .tup []) (fun b ob q => Heap.get?_push_of_some _ q) (Nat.le_refl _) ?_, rfl, qb (by decide) _ (I.hok.fresh (Nat.le_refl _))⟩
      exact ⟨Nat.zero_le _, [], .nil, IsTup.new _ _⟩
end
def rMulT (K : PySem.W.Frag) : R2 := fun x y H Q => rMulD x y H Q ∨ rRepD K x y H Q
theorem op_mulT {X : Cx} : OpR X (binaryOp .Mult) (rMulT X.K) := OpR.or op_mulD op_repD
def dMulT : D → D → (D → Prop) → Prop
  | .tup l, .int k, q => (l ≠ [] ∧ 0 ≤ k ∧ k ≤ 1000 ∧ l.length ≤ 1000) ∧ q (.tup (List.replicate k.toNat l).flatten)
  | x, y, q => dMul x y q
theorem sim_mulT {K : PySem.W.Frag} : Sim2 K (rMulT K) dMulT := fun F H x y d e Q q s r1 r2 w k => by
  cases r1 with
  | @tup a xs l h1 a1 =>
    cases r2 with
    | int j =>
      obtain ⟨⟨w1, w2, w3, w4⟩, w5⟩ := w
      refine .inr ⟨a, j, xs, rfl, rfl, same_t s h1, fun e => ?_, w2, w3, by rw [a1.len]; exact w4, fun e => ?_, fun _ p hp => k _ _ _ _ (Stp.new s hp) (.tup (.inl (.inl upd_same)) ((a1.rep _).mono (same_new (s.free hp)))) w5⟩
      · subst e
        cases a1
        exact w1 rfl
      · subst e
        have w6 : q (.tup (List.replicate 1 l).flatten) := w5
        rw [show List.replicate 1 l = [l] from rfl, List.flatten_cons, List.flatten_nil, List.append_nil] at w6
        exact k.here s (.tup h1 a1) w6
    | _ => exact w.elim
  | int i => exact .inl (sim_mul F H _ y _ e Q q s (.int i) r2 (by cases e <;> exact w) k)
  | lst h1 a1 => exact .inl (sim_mul F H _ y _ e Q q s (.lst h1 a1) r2 (by cases e <;> exact w) k)
  | _ => cases e <;> exact w.elim

/-! ### o.m(e, .., k = v) -/
section
variable {X : Cx} {CX : CXT} {k n : Nat} {f C : Addr} {fd : FuncData} {ps ks : List Str} {sp : Sp} {E : XK} {m : Str} {p pos apos : Pos} {e o : Expr} {es : List Expr} {kws : List Keyword} {ta : TE} {t tk : TA} {g : List Value → List Value → List Value} {gV : List V → List V → List V}
end

/-! ### == and != by an own __eq__ -/
section
variable {X : Cx} {pins : List (Addr × Obj)} {σ : L2.St} {H : Hp} {s : Shared}
end
section
variable {X : Cx} {CX : CXT} {k : Nat} {g C : Addr} {fd : FuncData} {sp : Sp} {E : XK}
end
end DL
/-! DL4: targets, instances made, fields stored, own ==, keywords, bags. -/
namespace DL
open PySem L2
variable [Tbl]
section
variable {K : PySem.W.Frag} {E : XK} {ta tb tc te : TE} {wa wb wc we : WE} {X : Cx}

/-! ### several targets -/
def setAll : List Nat → List D → EV → (EV → Prop) → Prop
  | [], [], env, q => q env
  | i :: js, x :: l, env, q => setAll js l (env.set i (.d x)) q
  | _, _, _, _ => False
def gTupD (js : List Nat) : D → EV → (EV → Prop) → Prop := fun d env q => match d with
  | .tup l => setAll js l env q
  | _ => False
/-- any target -/
def sAsgG (g : D → EV → (EV → Prop) → Prop) (we : WE) : WS := fun n env => we env n.er fun d => g d env n.nx
def sPar3 (i j l : Nat) (wa wb wc : WE) : WS := fun n env => wa env n.er fun x => wb env n.er fun y => wc env n.er fun z => n.nx (((env.set i (.d x)).set j (.d y)).set l (.d z))
def sParO3 (i j l : Nat) (wo : WO) (wb wc : WE) : WS := fun n env => wo env n.er fun x => wb env n.er fun y => wc env n.er fun z => n.nx (((env.set i (.own x)).set j (.d y)).set l (.d z))

/-! ### instances -/
abbrev IS := List D → ER → (List (Str × D) → Prop) → Prop
def wMake0 (C : Addr) (n : Nat) (S : IS) (dd : List D) (wa : WA) : WE := fun env er q => wa env er fun ds => (ds ++ dd).length = n ∧ S (ds ++ dd) (fun _ => False) fun fs => q (.ins C fs)
def putD (f : Str) (v : D) : List (Str × D) → List (Str × D)
  | [] => [(f, v)]
  | (g, x) :: r => if g = f then (g, v) :: r else (g, x) :: putD f v r
/-- self.f = e, in __init__ -/
def sFldI (C : Addr) (i : Nat) (f : Str) (we : WE) : WS := fun n env => match env[i]? with
  | some (.me a C' fs) => C' = C ∧ we env n.er fun d => fs.length < 1000 ∧ n.nx (env.set i (.me a C (putD f d fs)))
  | _ => False
def envI (N : Nat) (x C : Addr) (ds : List D) : EV := .me x C [] :: (ds.map .d ++ List.replicate (N - (ds.length + 1)) .un)
open PySem.Spec PyProof.Rows

/-! ### own ==, != -/

/-! ### keywords of a def without defaults -/
theorem kb_of {x qual : Str} {st : Stmt} {f : Addr} {fd : FuncData} {ps : List Str} (F : Fun K x qual st f fd) (n : Nat) (ks : List Str) (g : {α : Type} → List α → List α → List α)
    (hr : ∀ {vs : List V} {us : List Value} {zs : List V} {ws : List Value}, Vals vs us → Vals zs ws → Vals (g vs zs) (g us ws))
    (h : ∀ (kV doc pm : Value) (an : Option Addr) (cdv ct : Value) (us ws : List Value), us.length = n → ws.length = ks.length → bindArgs (PySem.W.fnOf x qual (defArgs st) (defBody st) (defScope st) .none kV doc pm an cdv ct) ⟨us, ks.zip ws⟩ = pure (ps.zip (g us ws))) :
    KBn K fd ps n ks (fun us ws => g us ws) (fun vs zs => g vs zs) := by
  obtain ⟨oc, od, kV, doc, pm, an, cdv, ct, osl, rfl, lk, hcd⟩ := F.ex
  exact ⟨fun s us ws _ l1 l2 => .of_eq (h kV doc pm an cdv ct us ws l1 l2), fun r1 r2 => hr r1 r2⟩

/-! ### bags -/
theorem inv_view {pins : List (Addr × Obj)} {σ : L2.St} {H : Hp} {s : Shared} {a : Addr} {o : HO} (I : Inv X pins σ H s) (mu : Mut (H a)) (ht : ∃ u, s.heap.get? a = some u) (ok : ObjOk X.prog X.w (upd H a o) s.heap a o) : Inv X pins σ (upd H a o) s :=
  I.write (t' := s.toks) (x := a) (e := a) (h' := s.heap) mu (.inl rfl) (fun b u _ z => z) ht ok
end
end DL
/-! DL5: tests, isinstance by classes, own == by classes, bags. -/
namespace DL
open PySem L2
variable [Tbl]
section
variable {K : PySem.W.Frag} {E : XK} {ta tb tc te : TE} {wa wb wc we : WE} {tt tu : TT} {wt wu : WT} {X : Cx}

/-! ### tests -/
def tyAnd (wt wu : WT) : WT := fun env er q => wt env er fun b => (b = true → wu env er q) ∧ (b = false → q false)
def tyOr (wt wu : WT) : WT := fun env er q => wt env er fun b => (b = true → q true) ∧ (b = false → wu env er q)
theorem simt_or (h : SimT K E tt wt) (g : SimT K E tu wu) : SimT K E (tOr tt tu) (tyOr wt wu) := fun B env F σ H Q er q a l w k =>
  h B env F σ H _ er _ a l w fun b F1 H1 s1 w1 => by
    cases b with
    | true => exact k true F1 H1 s1 (w1.1 rfl)
    | false => exact g B env F1 σ H1 Q er q (a.step s1) l (w1.2 rfl) fun b F2 H2 s2 => k b F2 H2 (s1.trans s2)
def tyNot (wt : WT) : WT := fun env er q => wt env er fun b => q (!b)
theorem simt_not (h : SimT K E tt wt) : SimT K E (tNot tt) (tyNot wt) := fun B env F σ H Q er q a l w k =>
  h B env F σ H _ er _ a l w fun b F1 H1 s1 w1 => k (!b) F1 H1 s1 w1

/-! ### classes by data -/
structure CtxD where
  own : Addr → Bool
  sub : Addr → Addr → Option Bool
def bts : List String := ["int", "bool", "str", "tuple", "list", "dict", "float", "set", "bytes", "type", "NoneType"]
structure TyOk (K : PySem.W.Frag) (A : CtxD) : Prop where
  cls : ∀ C, A.own C = true → OwnC K C
  up : ∀ C, A.own C = true → ∀ T ∈ bts, PySem.W.kitOne K (.ref C) (.type T) = some false
  dn : ∀ C, A.own C = true → ∀ T ∈ bts, PySem.W.kitOne K (.type T) (.ref C) = some false
  sub : ∀ C C' b, A.sub C C' = some b → A.own C = true ∧ PySem.W.kitOne K (.ref C) (.ref C') = some b
def isT (A : CtxD) : D → String → Option Bool
  | .int _, T => if T ∈ bts then some (T == "int") else none
  | .bl _, T => if T ∈ bts then some (T == "int" || T == "bool") else none
  | .str _, T => if T ∈ bts then some (T == "str") else none
  | .tup _, T => if T ∈ bts then some (T == "tuple") else none
  | .lst _, T => if T ∈ bts then some (T == "list") else none
  | .non, T => if T ∈ bts then some (T == "NoneType") else none
  | .dct _, T => if T ∈ bts then some (T == "dict") else none
  | .ins C _, T => if T ∈ bts ∧ A.own C = true then some false else none
  | _, _ => none
def isO (A : CtxD) : D → Addr → Option Bool
  | .ins C _, C' => A.sub C C'
  | .ty _, _ => none
  | .obj _, _ => none
  | .scr _, _ => none
  | .bag _, _ => none
  | .tux _, _ => none
  | .exc _ _, _ => none
  | .fnv _ _, _ => none
  | .dci _, _ => none
  | .dcn _, _ => none
  | .lmv _, _ => none
  | _, C' => if A.own C' = true then some false else none
def isA (A : CtxD) : List D → (D → Prop) → Prop
  | [x, .ty T], q => match isT A x T with
    | some b => q (.bl b)
    | none => False
  | [x, .obj C], q => match isO A x C with
    | some b => q (.bl b)
    | none => False
  | _, _ => False

/-! ### own ==, != -/

/-! ### bags -/
theorem vals_nats {p q r : Nat} {its : List Value} (h : Vals [V.int p, V.int q, V.int r] its) : ∃ t u v, its = [.int p t, .int q u, .int r v] := by
  cases h with
  | cons h1 h =>
    cases h with
    | cons h2 h =>
      cases h with
      | cons h3 h =>
        cases h
        obtain ⟨t, rfl⟩ := h1
        obtain ⟨u, rfl⟩ := h2
        obtain ⟨v, rfl⟩ := h3
        exact ⟨t, u, v, rfl⟩
theorem bag_close {pins : List (Addr × Obj)} {σ : L2.St} {H : Hp} {s : Shared} {a : Addr} {p q r : Nat} (I : Inv X pins σ H s) (h : H a = some (.lst [.int p, .int q, .int r])) : Inv X pins σ (upd H a (BagO a)) s := by
  obtain ⟨its, n, rv, ho, hz⟩ := I.lst h
  obtain ⟨t, u, v, rfl⟩ := vals_nats rv
  refine inv_view I (by rw [h]; trivial) ⟨_, ho⟩ ?_
  exact ⟨⟨p, q, r, t, u, v, n, ho⟩, ⟨_, ho⟩, fun h1 h2 z k => by
    obtain ⟨p, q, r, t, u, v, n, z⟩ := z
    exact ⟨p, q, r, t, u, v, n, k _ z⟩⟩
theorem bag_open {pins : List (Addr × Obj)} {σ : L2.St} {H : Hp} {s : Shared} {a : Addr} (I : Inv X pins σ H s) (h : H a = some (BagO a)) : ∃ p q r : Nat, Inv X pins σ (upd H a (.lst [.int p, .int q, .int r])) s := by
  have x : ObjOk X.prog X.w H s.heap a (.ext (BagP a)) := I.hok a _ h
  obtain ⟨p, q, r, t, u, v, n, ho⟩ := x.1
  refine ⟨p, q, r, inv_view I (by rw [h]; trivial) ⟨_, ho⟩ ?_⟩
  exact ⟨by show 3 ≤ sizeLine; decide, _, n, .cons ⟨t, rfl⟩ (.cons ⟨u, rfl⟩ (.cons ⟨v, rfl⟩ .nil)), ho⟩
def tAsBag (te : TE) : TE := fun σ H Q => te σ H fun x H1 => ∃ (a : Addr) (p q r : Nat), x = .ref a ∧ H1 a = some (.lst [.int p, .int q, .int r]) ∧ Q (.ref a) (upd H1 a (BagO a))
theorem pe_asBag {e : Expr} {te : TE} (h : PE X e te) : PE X e (tAsBag te) := ⟨fun pins s σ H Q I w => by
  refine thn (h.run pins s σ H _ I w) fun v s1 z => ?_
  obtain ⟨x, H1, I1, r1, a, p, q, r, rfl, h1, z⟩ := z
  exact ⟨.ref a, _, bag_close I1 h1, r1, z⟩⟩
def wBag (wo : WO) : WE := fun env er q => wo env er fun l => match l with
  | [.int i, .int j, .int k] => (0 ≤ i ∧ 0 ≤ j ∧ 0 ≤ k) ∧ ∀ a, q (.bag a)
  | _ => False
theorem sim_asBag {wo : WO} (h : SimO K E te wo) : SimE K E (tAsBag te) (wBag wo) := fun B env F σ H Q er q a l w k =>
  h B env F σ H _ er _ a l w fun p xs ls F1 H1 s1 hp h1 hf r1 w1 => by
    split at w1
    case h_2 => exact w1.elim
    rename_i i j m
    obtain ⟨⟨h0, h2, h3⟩, z⟩ := w1
    obtain ⟨i, rfl⟩ := Int.eq_ofNat_of_zero_le h0
    obtain ⟨j, rfl⟩ := Int.eq_ofNat_of_zero_le h2
    obtain ⟨m, rfl⟩ := Int.eq_ofNat_of_zero_le h3
    have e : xs = [V.int (i : Nat), V.int (j : Nat), V.int (m : Nat)] := RepA.ints_inv (K := K) (F := F1) (ns := [((i : Nat) : Int), ((j : Nat) : Int), ((m : Nat) : Int)]) r1
    subst e
    exact ⟨p, i, j, m, rfl, h1, k _ _ _ _ ((s1.mut hp hf h1).freeze hp hf upd_same) (.bag upd_same) (z p)⟩
/-- a def's body with the bag in the slot i opened -/
def tOpen (i : Nat) (t : TS) : TS := fun Dd σ H => ∃ a : Addr, σ[i]? = some (some (.ref a)) ∧ H a = some (BagO a) ∧ ∀ p q r : Nat, t Dd σ (upd H a (.lst [.int p, .int q, .int r]))
theorem pss_open {i : Nat} {b : List Stmt} {t : TS} (h : PSs X b t) : PSs X b (tOpen i t) := ⟨fun pins s σ H Dd I w => by
  obtain ⟨a, _, h1, w⟩ := w
  obtain ⟨p, q, r, I1⟩ := bag_open I h1
  exact h.run pins s σ _ Dd I1 (w p q r)⟩
def tShut (i : Nat) (te : TE) : TE := fun σ H Q => te σ H fun x H1 => ∃ (a : Addr) (p q r : Nat), σ[i]? = some (some (.ref a)) ∧ H1 a = some (.lst [.int p, .int q, .int r]) ∧ Q x (upd H1 a (BagO a))
theorem pe_shut {i : Nat} {e : Expr} {te : TE} (h : PE X e te) : PE X e (tShut i te) := ⟨fun pins s σ H Q I w => by
  refine thn (h.run pins s σ H _ I w) fun v s1 z => ?_
  obtain ⟨x, H1, I1, r1, a, p, q, r, _, h1, z⟩ := z
  exact ⟨x, _, bag_close I1 h1, r1, z⟩⟩
theorem upd_id {H : Hp} {a : Addr} {o : HO} (h : H a = some o) : upd H a o = H := by
  funext b
  by_cases e : b = a
  · rw [e, upd_same, h]
  · rw [upd_ne e]
end
end DL
/-! DL6: the law's draw from a bag. -/
namespace DL
open PySem L2
variable [Tbl]
section
variable {K : PySem.W.Frag} {E : XK} {X : Cx}
def sDraw : FS := fun ds er q => match ds with
  | [.bag _, .int w] => 0 < w ∧ w < 2 ^ 200 ∧ ∀ r : Int, 0 ≤ r → r < w → q (.int r)
  | _ => False
abbrev bIx (K : PySem.W.Frag) (i : Int) : TE := tOp (rIx K) (tVar 0) (tC (.int i))
def tDraw1 (K : PySem.W.Frag) : TS := tAsg (tOp (rAddD K) (bIx K 2) (tC (.int 1))) (gSub (tVar 0) (tC (.int 2)) rSetL)
def tDraw2 (K : PySem.W.Frag) : TS := tIfS (tTest (tOp rGtD (bIx K 0) (tC (.int 0)))) (tSeq (tAsg (tOp rModD (tCB rIntD (tCons (bIx K 0) tNil)) (tVar 1)) (gName 2)) (tSeq (tAsg (tOp rDivD (bIx K 0) (tVar 1)) (gSub (tVar 0) (tC (.int 0)) rSetL)) (tRet (tShut 0 (tVar 2))))) tNext
def tDraw3 (K : PySem.W.Frag) : TS := tAsg (tOp (rAddD K) (tCB rIntD (tCons (bIx K 1) tNil)) (tOp rMulD (tC (.int 104651)) (bIx K 2))) (gName 3)
def tDraw4 (K : PySem.W.Frag) : TS := tAsg (tOp rModD (tCB rIntD (tCons (tOp (rAddD K) (tOp (rAddD K) (tOp rMulD (tVar 3) (tOp (rAddD K) (tOp rModD (tCB rIntD (tCons (tVar 3) tNil)) (tC (.int 59999))) (tC (.int 40013)))) (tOp rMulD (tC (.int 7)) (bIx K 2))) (tC (.int 13))) tNil)) (tC (.int 2147483587))) (gSub (tVar 0) (tC (.int 1)) rSetL)
def tDraw5 (K : PySem.W.Frag) : TS := tRet (tShut 0 (tOp rModD (tOp rDivD (tCB rIntD (tCons (bIx K 1) tNil)) (tC (.int 521))) (tVar 1)))
def tDraw (K : PySem.W.Frag) : TS := tOpen 0 (tSeq (tDraw1 K) (tSeq (tDraw2 K) (tSeq (tDraw3 K) (tSeq (tDraw4 K) (tDraw5 K)))))
theorem bix {σ : L2.St} {H : Hp} {Q : VK} {a : Addr} {xs : List V} {i : Int} {v : V} (h0 : σ[0]? = some (some (.ref a))) (h : H a = some (.lst xs)) (e : atI xs i = some v) (q : Q v H) : bIx K i σ H Q :=
  ⟨.ref a, h0, .inl ⟨a, xs, i, v, rfl, rfl, SqL.of h, e, q⟩⟩
theorem bset {σ : L2.St} {H : Hp} {Q : L2.St → Hp → Prop} {a : Addr} {xs : List V} {i : Int} {j : Nat} {v : V} (h0 : σ[0]? = some (some (.ref a))) (h : H a = some (.lst xs)) (e : ixN xs.length i = some j) (q : Q σ (upd H a (.lst (xs.set j v)))) : gSub (tVar 0) (tC (.int i)) rSetL v σ H Q :=
  ⟨.ref a, h0, a, xs, i, j, rfl, rfl, h, e, q⟩
theorem draw_ok {N : List Str} {vs : List V} {H : Hp} {Q : VK} (h : spOf K 2 sDraw vs H Q E) (hN : N.length = 4) : tDraw K { nx := fun _ H' => Q .non H', rt := Q } (L2.start N vs) H := by
  obtain ⟨F, ds, er, q, hl, s, r, hS, kv, ke⟩ := h
  unfold sDraw at hS
  split at hS
  · rename_i b w
    obtain ⟨w0, w1, hq⟩ := hS
    cases r with
    | cons r1 r =>
      cases r with
      | cons r2 r =>
        cases r
        cases r2
        cases r1 with
        | bag hb =>
          have hH := s _ _ hb
          have st : L2.start N [V.ref b, .int w] = [some (.ref b), some (.int w), none, none] := by
            unfold L2.start
            rw [hN]
            rfl
          rw [st]
          have hw : CDivW 0 w := ⟨w0, by
            have : w.natAbs < 2 ^ 200 := by omega
            have := Nat.log2_lt (n := w.natAbs) (k := 200) (by omega)
            omega⟩
          have fin : ∀ (z : Int), 0 ≤ z → z < w → Q (.int z) H := fun z h1 h2 => kv.here s (.int z) (hq z h1 h2)
          have em : ∀ z : Int, 0 ≤ z % w ∧ z % w < w := fun z => ⟨Int.emod_nonneg _ (by omega), Int.emod_lt_of_pos _ w0⟩
          refine ⟨b, rfl, hH, fun p p1 p2 => ?_⟩
          have g1 : ∀ xs, (upd H b (HO.lst xs)) b = some (.lst xs) := fun xs => upd_same
          -- the count
          refine bix (v := .int p2) rfl (g1 _) rfl ?_
          refine .inl ⟨p2, 1, rfl, rfl, ?_⟩
          refine bset (j := 2) rfl (g1 _) rfl ?_
          rw [upd_upd]
          show tSeq (tDraw2 K) _ _ _ (upd H b (.lst [.int p, .int p1, .int ((p2 : Int) + 1)]))
          -- the figures
          refine bix (v := .int p) rfl (g1 _) rfl ?_
          refine ⟨_, _, rfl, rfl, _, rfl, ?_⟩
          refine ite2 (fun _ => ?_) (fun _ => ?_)
          · refine bix (v := .int p) rfl (g1 _) rfl ?_
            refine .inl ⟨_, rfl, ?_⟩
            refine ⟨_, rfl, _, _, rfl, rfl, w0, ?_⟩
            refine bix (v := .int p) rfl (g1 _) rfl ?_
            refine ⟨_, rfl, _, _, rfl, rfl, hw, ?_⟩
            refine bset (j := 0) rfl (g1 _) rfl ?_
            rw [upd_upd]
            obtain ⟨m, hm⟩ := Int.eq_ofNat_of_zero_le (Int.ediv_nonneg (Int.natCast_nonneg p) (Int.le_of_lt w0))
            refine ⟨_, rfl, b, m, p1, p2 + 1, rfl, ?_, ?_⟩
            · rw [g1]
              show some (HO.lst [V.int ((p : Int) / w), V.int p1, V.int ((p2 : Int) + 1)]) = _
              rw [hm]
              rfl
            · rw [upd_upd, upd_id hH]
              exact fin _ (em _).1 (em _).2
          · refine bix (v := .int p1) rfl (g1 _) rfl ?_
            refine .inl ⟨_, rfl, ?_⟩
            refine bix (v := .int ((p2 : Int) + 1)) rfl (g1 _) rfl ?_
            refine .inl ⟨_, _, rfl, rfl, .inl (by decide), ?_⟩
            refine .inl ⟨_, _, rfl, rfl, ?_⟩
            show tSeq (tDraw4 K) _ _ [some (.ref b), some (.int w), none, some (.int ((p1 : Int) + 104651 * ((p2 : Int) + 1)))] _
            generalize ((p1 : Int) + 104651 * ((p2 : Int) + 1)) = z
            refine ⟨_, rfl, _, rfl, .inl ⟨_, rfl, ?_⟩⟩
            have k1 : 0 ≤ z % 59999 ∧ z % 59999 < 59999 := ⟨Int.emod_nonneg _ (by decide), Int.emod_lt_of_pos _ (by decide)⟩
            refine ⟨_, _, rfl, rfl, (show (0 : Int) < _ by decide), ?_⟩
            refine .inl ⟨_, _, rfl, rfl, ?_⟩
            refine .inl ⟨_, _, rfl, rfl, .inr (by omega), ?_⟩
            refine bix (v := .int ((p2 : Int) + 1)) rfl (g1 _) rfl ?_
            refine .inl ⟨_, _, rfl, rfl, .inl (by decide), ?_⟩
            refine .inl ⟨_, _, rfl, rfl, ?_⟩
            refine .inl ⟨_, _, rfl, rfl, ?_⟩
            refine .inl ⟨_, rfl, ?_⟩
            refine ⟨_, _, rfl, rfl, (show (0 : Int) < _ by decide), ?_⟩
            refine bset (j := 1) rfl (g1 _) rfl ?_
            rw [upd_upd]
            obtain ⟨m, hm⟩ := Int.eq_ofNat_of_zero_le (Int.emod_nonneg (z * (z % 59999 + 40013) + 7 * ((p2 : Int) + 1) + 13) (b := 2147483587) (by decide))
            show tDraw5 K _ _ (upd H b (.lst [.int p, .int ((z * (z % 59999 + 40013) + 7 * ((p2 : Int) + 1) + 13) % 2147483587), .int ((p2 : Int) + 1)]))
            rw [hm]
            show tDraw5 K _ _ (upd H b (.lst [.int p, .int m, .int ((p2 : Int) + 1)]))
            refine bix (v := .int m) rfl (g1 _) rfl ?_
            refine .inl ⟨_, rfl, ?_⟩
            refine ⟨_, _, rfl, rfl, ⟨by decide, by decide +kernel⟩, ?_⟩
            refine ⟨_, rfl, _, _, rfl, rfl, w0, ?_⟩
            refine ⟨b, p, m, p2 + 1, rfl, ?_, ?_⟩
            · rw [g1]
              rfl
            · rw [upd_upd, upd_id hH]
              exact fin _ (em _).1 (em _).2
  · exact hS.elim
end
end DL
namespace DL
open PySem L2
variable [Tbl]
section
variable {K : PySem.W.Frag} {E E1 : XK} {ta : TE} {wa : WE} {X : Cx}
/-! ### calls that raise nothing -/
def wMeth0 (C : Addr) (m : Str) (n : Nat) (S : FS) (dd : List D) (wa : WE) (wr : WA) : WE := fun env er q => wa env er fun o => match o with
  | .ins C' fs => C' = C ∧ fs.lookup m = none ∧ wr env er fun ds => (o :: (ds ++ dd)).length = n ∧ S (o :: (ds ++ dd)) (fun _ => False) q
  | _ => False
def wMethN0 (C : Addr) (m : Str) (mm p : Nat) (S : FS) (g : List D → List D → List D) (wa : WE) (wk : WA) : WE := fun env er q => wa env er fun o => match o with
  | .ins C' fs => C' = C ∧ fs.lookup m = none ∧ wk env er fun zs => zs.length = mm ∧ (g [o] zs).length = p ∧ S (g [o] zs) (fun _ => False) q
  | _ => False
def wMakeK0 (C : Addr) (m n : Nat) (S : IS) (g : List D → List D) (wk : WA) : WE := fun env er q => wk env er fun zs => zs.length = m ∧ (g zs).length = n ∧ S (g zs) (fun _ => False) fun fs => q (.ins C fs)

/-! ### keywords, in the parameters' order -/
def perm {α : Type} (p : List Nat) (l : List α) : List α := p.filterMap fun i => l[i]?
def pmA {α : Type} (p : List Nat) (vs zs : List α) : List α := vs ++ perm p zs
theorem vals_get : ∀ {us : List V} {zs : List Value} {i : Nat}, Vals us zs → (us[i]? = none ∧ zs[i]? = none) ∨ ∃ x y, us[i]? = some x ∧ zs[i]? = some y ∧ RelV x y
  | [], _, i, .nil => .inl ⟨rfl, rfl⟩
  | _ :: _, _, 0, .cons h _ => .inr ⟨_, _, rfl, rfl, h⟩
  | _ :: _, _, i + 1, .cons _ r => by
    rw [List.getElem?_cons_succ, List.getElem?_cons_succ]
    exact vals_get r
theorem perm_vals {us : List V} {zs : List Value} (h : Vals us zs) : ∀ p : List Nat, Vals (perm p us) (perm p zs)
  | [] => .nil
  | i :: p => by
    unfold perm
    rw [List.filterMap_cons, List.filterMap_cons]
    rcases vals_get (i := i) h with ⟨e1, e2⟩ | ⟨x, y, e1, e2, r⟩
    · rw [e1, e2]
      exact perm_vals h p
    · rw [e1, e2]
      exact .cons r (perm_vals h p)
theorem kb_perm {x qual : Str} {st : Stmt} {f : Addr} {fd : FuncData} {ps : List Str} (F : Fun K x qual st f fd) (n : Nat) (ks : List Str) (p : List Nat)
    (h : ∀ (kV doc pm : Value) (an : Option Addr) (cdv ct : Value) (us ws : List Value), us.length = n → ws.length = ks.length → bindArgs (PySem.W.fnOf x qual (defArgs st) (defBody st) (defScope st) .none kV doc pm an cdv ct) ⟨us, ks.zip ws⟩ = pure (ps.zip (pmA p us ws))) :
    KBn K fd ps n ks (pmA p) (pmA p) := kb_of F n ks (fun {α} => pmA (α := α) p) (fun h1 h2 => h1.append (perm_vals h2 p)) h
theorem passN {P : Program} {w : World} : Passes (L2.CX P w) X E0 := fun _ _ _ _ _ _ _ ⟨_, _, _, _, _, _, _, _, _, _, _, _, h⟩ => h.elim
theorem hu64 {k : Nat} {A : Around} (hr : Room k A) : A.units + 64 < cLine := by
  have := hr.un
  omega
end
theorem bt_int : bootBuiltins "int" = some (.type "int") := by kernel_rfl
theorem bt_len : bootBuiltins "len" = some (.builtin "len") := by kernel_rfl
theorem bt_all : bootBuiltins "all" = some (.builtin "all") := by kernel_rfl
theorem bt_abs : bootBuiltins "abs" = some (.builtin "abs") := by kernel_rfl
theorem bt_max : bootBuiltins "max" = some (.builtin "max") := by kernel_rfl
theorem bt_min : bootBuiltins "min" = some (.builtin "min") := by kernel_rfl
theorem bt_isinstance : bootBuiltins "isinstance" = some (.builtin "isinstance") := by kernel_rfl
theorem bt_repr : bootBuiltins "repr" = some (.builtin "repr") := by kernel_rfl
end DL
/-! DL7: data that is equal to itself; the law's own promise; the end. -/
namespace DL
open PySem L2
variable [Tbl]
/-! ### what may be compared -/
def okL (n : Nat) (d : D) : Prop := ∃ p, pd d = some p ∧ p.canLay0 = true ∧ p.depth ≤ n
theorem okL_int (i : Int) : okL 0 (.int i) := ⟨_, rfl, rfl, Nat.le_refl _⟩
theorem okL_bl (b : Bool) : okL 0 (.bl b) := ⟨_, rfl, rfl, Nat.le_refl _⟩
theorem okL_non : okL 0 .non := ⟨_, rfl, rfl, Nat.le_refl _⟩
theorem okL_all {n : Nat} : ∀ {l : List D}, (∀ x ∈ l, okL n x) → ∃ ps, pdA l = some ps ∧ PyData.canLayAll0 ps = true ∧ PyData.depthAll ps ≤ n
  | [], _ => ⟨[], rfl, rfl, Nat.zero_le _⟩
  | d :: l, h => by
    obtain ⟨p, h1, h2, h3⟩ := h d (by simp)
    obtain ⟨ps, k1, k2, k3⟩ := okL_all (l := l) fun x hx => h x (by simp [hx])
    refine ⟨p :: ps, ?_, ?_, ?_⟩
    · unfold pdA
      rw [h1, k1]
    · show (PyData.canLay0 p && PyData.canLayAll0 ps) = true
      rw [h2, k2]
      rfl
    · show max (PyData.depth p) (PyData.depthAll ps) ≤ n
      omega
theorem okL_lst {n : Nat} {l : List D} (h : ∀ x ∈ l, okL n x) : okL (n + 1) (.lst l) := by
  obtain ⟨ps, k1, k2, k3⟩ := okL_all h
  refine ⟨.list ps, ?_, k2, Nat.succ_le_succ k3⟩
  unfold pd
  rw [k1]
  rfl
theorem okD_of {n : Nat} {d : D} (h : okL n d) (e : n ≤ 64) : okD d := by
  obtain ⟨p, h1, h2, h3⟩ := h
  unfold okD
  rw [h1]
  show (p.canLay0 && decide (p.depth ≤ 64)) = true
  rw [h2, decide_eq_true (Nat.le_trans h3 e)]
  rfl
theorem eqD_refl {n : Nat} {d : D} (h : okL n d) : eqD d d = true := by
  obtain ⟨p, h1, h2, _⟩ := h
  unfold eqD
  rw [h1]
  exact SeqAt.eqv_refl p h2
theorem okD_int (i : Int) : okD (.int i) := okD_of (okL_int i) (by decide)
theorem okD_bl (b : Bool) : okD (.bl b) := okD_of (okL_bl b) (by decide)
theorem okD_non : okD .non := okD_of okL_non (by decide)
theorem eqD_int (i j : Int) : eqD (.int i) (.int j) = (i == j) := by
  show PyData.eqv (.int i) (.int j) = _
  simp [PyData.eqv]
theorem eqD_bl (i j : Bool) : eqD (.bl i) (.bl j) = (i == j) := by
  show PyData.eqv (.bool i) (.bool j) = _
  simp [PyData.eqv]

/-! ### the law's promise, the end -/
def sLawD : FS := fun ds _ q => ∃ ns : List Int, ds = [.scr ns] ∧ ns.length ≤ 63 ∧ q (.bl true)
/-- all but the tables -/
def noT (H : Hp) : Hp := fun a => match H a with
  | some (.tbl _) => none
  | o => o
theorem noT_get {H : Hp} {a : Addr} {o : HO} (h : H a = some o) (n : NT o) : noT H a = some o := by
  unfold noT
  rw [h]
  cases o <;> first | rfl | exact n.elim
theorem noT_of {H : Hp} {a : Addr} {o : HO} (h : noT H a = some o) : H a = some o ∧ NT o := by
  unfold noT at h
  cases e : H a with
  | none =>
    rw [e] at h
    cases h
  | some u =>
    rw [e] at h
    cases u <;> first | (cases h; done) | (cases h; exact ⟨rfl, trivial⟩)
theorem noT_seq {K : PySem.W.Frag} {H : Hp} {a : Addr} {xs : List V} (h : SqL K H a xs) : SqL K (noT H) a xs := by
  rcases h with (h | ⟨o, h⟩) | h
  · exact .inl (.inl (noT_get h trivial))
  · exact .inl (.inr ⟨o, noT_get h trivial⟩)
  · exact .inr h
theorem noT_fz {H : Hp} (t : TB H) : Fz (noT H) H := ⟨fun a o h => (noT_of h).1, t, fun a o h => (noT_of h).2⟩
theorem sp_law {K : PySem.W.Frag} {H : Hp} {a : Addr} {ns : List Int} (hT : TB H) (hl : ns.length ≤ 63) (h : SqL K H a (ns.map V.int)) : spOf K 1 sLawD [.ref a] H (fun v _ => v = .bl true) fun _ _ _ => False := by
  refine ⟨noT H, [.scr ns], fun _ => False, fun d => d = .bl true, rfl, noT_fz hT, .one (.scr (noT_seq h)), ⟨ns, rfl, hl, rfl⟩, fun x d F' H' _ r e => ?_, EL.no⟩
  subst e
  cases r
  rfl
open PySem.Spec PyProof.Rows
abbrev noTbl (w : World) : Tbl := ⟨[], [], w⟩
end DL
namespace DL
/-! ### comprehensions and loops that are plain -/
theorem comp_ok {α : Type} {c : α → D} {g : D → EV → (EV → Prop) → Prop} {wt : WT} {we : WE} {ew : EV} {er : ER} {q : List D → Prop} {ev : α → EV} {p : α → Bool} {f : α → D} : ∀ {l : List α} {acc : List D}, (∀ x ∈ l, ∀ Q : EV → Prop, Q (ev x) → g (c x) ew Q) → (∀ x ∈ l, ∀ Q : Bool → Prop, Q (p x) → wt (ev x) er Q) →
    (∀ x ∈ l, p x = true → ∀ Q : D → Prop, Q (f x) → we (ev x) er Q) → acc.length + l.length ≤ PySem.sizeLine → q (acc ++ (l.filter p).map f) → wComp g wt we ew er q (l.map c) acc
  | [], acc, _, _, _, _, z => by
    simp at z
    exact z
  | x :: l, acc, h1, h2, h3, h4, z => by
    refine h1 x (by simp) _ (h2 x (by simp) _ ⟨fun e => h3 x (by simp) e _ ⟨?_, ?_⟩, fun e => ?_⟩)
    · rw [List.length_cons] at h4
      omega
    · refine comp_ok (ev := ev) (p := p) (f := f) (fun y hy => h1 y (by simp [hy])) (fun y hy => h2 y (by simp [hy])) (fun y hy => h3 y (by simp [hy])) ?_ ?_
      · rw [List.length_append]
        rw [List.length_cons] at h4
        show acc.length + 1 + l.length ≤ _
        omega
      · rw [List.filter_cons, if_pos e] at z
        simpa using z
    · refine comp_ok (ev := ev) (p := p) (f := f) (fun y hy => h1 y (by simp [hy])) (fun y hy => h2 y (by simp [hy])) (fun y hy => h3 y (by simp [hy])) ?_ ?_
      · rw [List.length_cons] at h4
        omega
      · rw [List.filter_cons, if_neg (by rw [e]; exact Bool.false_ne_true)] at z
        exact z
theorem comp_map {α : Type} {c : α → D} {g : D → EV → (EV → Prop) → Prop} {we : WE} {ew : EV} {er : ER} {q : List D → Prop} {ev : α → EV} {f : α → D} {l : List α} (h1 : ∀ x ∈ l, ∀ Q : EV → Prop, Q (ev x) → g (c x) ew Q)
    (h3 : ∀ x ∈ l, ∀ Q : D → Prop, Q (f x) → we (ev x) er Q) (h4 : l.length ≤ PySem.sizeLine) (z : q (l.map f)) : wComp g wYes we ew er q (l.map c) [] :=
  comp_ok (p := fun _ => true) (ev := ev) (f := f) h1 (fun _ _ _ h => h) (fun x hx _ => h3 x hx) (by simpa using h4) (by
    have e : l.filter (fun _ => true) = l := List.filter_eq_self.mpr fun _ _ => rfl
    rw [List.nil_append, e]
    exact z)
theorem rngD_eq (lo : Int) (n : Nat) : rngD lo n = (List.range' 0 n).map fun (i : Nat) => D.int (lo + i) := by
  unfold rngD
  rw [List.range_eq_range']
theorem bools_map {α : Type} (f : α → Bool) : ∀ l : List α, bools (l.map fun x => D.bl (f x)) = some (l.map f)
  | [] => rfl
  | x :: l => by
    rw [List.map_cons]
    unfold bools
    rw [bools_map f l]
    rfl
theorem all_map {α : Type} (f : α → Bool) (l : List α) (q : D → Prop) (h : q (.bl (l.all f))) : lAll (l.map fun x => D.bl (f x)) q := by
  unfold lAll
  rw [bools_map]
  simpa [List.all_map] using h
theorem atD_nat {α : Type} {xs : List α} {n : Nat} : atD xs (n : Int) = xs[n]? := by
  unfold atD L2.ixN
  by_cases h : n < xs.length
  · simp [h]
  · simp [h]
theorem cutD_to {α : Type} {xs : List α} {n : Nat} : cutD xs none (some (n : Int)) = xs.take n := by
  unfold cutD
  rw [HT.sIx_nat, HT.sIx_none]
  simp
/-! ### isinstance over own classes, from their lines of descent -/
def mroL (ups : List PySem.Addr) (tys : List String) : List PySem.Value := ups.map .ref ++ tys.map .type
structure OwnM (K : PySem.W.Frag) (C : PySem.Addr) (ups : List PySem.Addr) (tys : List String) : Prop where
  ci : ∃ cd, PySem.W.clsIn K C = some cd ∧ cd.mro = mroL ups tys
  me : ups.head? = some C
  ob : "object" ∈ tys
  no : ∀ T ∈ bts, T ∉ tys
  tp : PySem.W.typeIn K (.ref C) = some (.type "type")
def cdOf (cs : List (PySem.Addr × List PySem.Addr)) : CtxD where
  own := fun C => (cs.lookup C).isSome
  sub := fun C D => match cs.lookup C with
    | some up => if (cs.lookup D).isSome = true then some (up.contains D) else none
    | none => none
section
open PySem
variable {K : PySem.W.Frag} {C D : Addr} {ups upd : List Addr} {tys tyd : List String}
theorem mroL_ref : (mroL ups tys).contains (.ref D) = ups.contains D := by
  unfold mroL
  rw [Bool.eq_iff_iff, List.contains_iff_mem, List.contains_iff_mem, List.mem_append, List.mem_map, List.mem_map]
  constructor
  · rintro (⟨a, h, e⟩ | ⟨a, _, e⟩)
    · cases e
      exact h
    · cases e
  · exact fun h => .inl ⟨D, h, rfl⟩
theorem mroL_ty {T : String} : (mroL ups tys).contains (.type T) = tys.contains T := by
  unfold mroL
  rw [Bool.eq_iff_iff, List.contains_iff_mem, List.contains_iff_mem, List.mem_append, List.mem_map, List.mem_map]
  constructor
  · rintro (⟨a, _, e⟩ | ⟨a, h, e⟩)
    · cases e
    · cases e
      exact h
  · exact fun h => .inr ⟨T, h, rfl⟩
theorem OwnM.mro (h : OwnM K C ups tys) (b : Value) : PySem.W.mroIn K C b = some ((mroL ups tys).contains b) := by
  obtain ⟨cd, e, e2⟩ := h.ci
  have ne : (mroL ups tys).isEmpty = false := by
    have := h.me
    cases ups with
    | nil => cases this
    | cons a l => rfl
  unfold PySem.W.mroIn
  rw [e, Option.bind_some, e2, ne]
  rfl
theorem OwnM.up (h : OwnM K C ups tys) {T : String} (hT : T ∈ bts) : PySem.W.kitOne K (.ref C) (.type T) = some false := by
  have e : PySem.W.kitMeta T = true := by
    have hT := hT
    unfold bts at hT
    simp only [List.mem_cons, List.not_mem_nil, or_false] at hT
    rcases hT with rfl | rfl | rfl | rfl | rfl | rfl | rfl | rfl | rfl | rfl | rfl <;> kernel_rfl
  unfold PySem.W.kitOne
  rw [if_neg (by intro z; cases (beq_iff_eq.mp z))]
  show (if PySem.W.kitMeta T = true then PySem.W.subIn K (.ref C) (.type T) else none) = _
  rw [if_pos e]
  show PySem.W.mroIn K C (.type T) = _
  rw [h.mro, mroL_ty]
  have := h.no T hT
  simpa using this
theorem OwnM.dn (h : OwnM K C ups tys) {T : String} (hT : T ∈ bts) : PySem.W.kitOne K (.type T) (.ref C) = some false := by
  obtain ⟨cd, e, _⟩ := h.ci
  unfold PySem.W.kitOne
  rw [if_neg (by intro z; cases (beq_iff_eq.mp z))]
  show (if ((PySem.W.clsIn K C).isSome && PySem.W.typeIn K (.ref C) == some (.type "type")) = true then PySem.W.subIn K (.type T) (.ref C) else none) = _
  rw [e, h.tp, if_pos (by simp)]
  unfold bts at hT
  simp only [List.mem_cons, List.not_mem_nil, or_false] at hT
  rcases hT with rfl | rfl | rfl | rfl | rfl | rfl | rfl | rfl | rfl | rfl | rfl <;> kernel_rfl
theorem OwnM.sub (h : OwnM K C ups tys) (g : OwnM K D upd tyd) : PySem.W.kitOne K (.ref C) (.ref D) = some (ups.contains D) := by
  obtain ⟨cd, e, _⟩ := g.ci
  unfold PySem.W.kitOne
  by_cases z : C = D
  · subst z
    rw [if_pos (by simp)]
    have : C ∈ ups := List.mem_of_mem_head? h.me
    rw [List.contains_iff_mem.mpr this]
  · rw [if_neg (by intro y; cases (beq_iff_eq.mp y); exact z rfl)]
    show (if ((PySem.W.clsIn K D).isSome && PySem.W.typeIn K (.ref D) == some (.type "type")) = true then PySem.W.subIn K (.ref C) (.ref D) else none) = _
    rw [e, g.tp, if_pos (by simp)]
    show PySem.W.mroIn K C (.ref D) = _
    rw [h.mro, mroL_ref]
theorem lookup_in {cs : List (Addr × List Addr)} {u : List Addr} (h : cs.lookup C = some u) : (C, u) ∈ cs := by
  induction cs with
  | nil => cases h
  | cons p cs ih =>
    obtain ⟨a, v⟩ := p
    rw [List.lookup_cons] at h
    cases e : C == a with
    | true =>
      rw [e] at h
      cases h
      rw [beq_iff_eq.mp e]
      exact List.mem_cons_self
    | false =>
      rw [e] at h
      exact List.mem_cons_of_mem _ (ih h)
theorem tyOk_of {cs : List (Addr × List Addr)} (h : ∀ p ∈ cs, OwnC K p.1 ∧ ∃ tys, OwnM K p.1 p.2 tys) : TyOk K (cdOf cs) := by
  have get : ∀ C, (cdOf cs).own C = true → ∃ u, cs.lookup C = some u := fun C e => Option.isSome_iff_exists.mp e
  refine ⟨fun C e => ?_, fun C e T hT => ?_, fun C e T hT => ?_, fun C D b e => ?_⟩
  · obtain ⟨u, e⟩ := get C e
    exact (h _ (lookup_in e)).1
  · obtain ⟨u, e⟩ := get C e
    obtain ⟨_, tys, m⟩ := h _ (lookup_in e)
    exact m.up hT
  · obtain ⟨u, e⟩ := get C e
    obtain ⟨_, tys, m⟩ := h _ (lookup_in e)
    exact m.dn hT
  · unfold cdOf at e
    have e : (match cs.lookup C with | some up => if (cs.lookup D).isSome = true then some (up.contains D) else none | none => none) = some b := e
    cases e1 : cs.lookup C with
    | none =>
      rw [e1] at e
      cases e
    | some u =>
      rw [e1] at e
      have e : (if (cs.lookup D).isSome = true then some (u.contains D) else none) = some b := e
      split at e
      · rename_i z
        obtain ⟨v, e2⟩ := Option.isSome_iff_exists.mp z
        obtain ⟨_, t1, m1⟩ := h _ (lookup_in e1)
        obtain ⟨_, t2, m2⟩ := h _ (lookup_in e2)
        refine ⟨?_, (m1.sub m2).trans e⟩
        show (cs.lookup C).isSome = true
        rw [e1]
        rfl
      · cases e
end
end DL
/-! DLE: == and != of lists and tuples whose items may be instances with an own __eq__ (which may change the state). -/
namespace PySem.SeqAt
open AutoSeq1 (wpAny_loadPart')
open MeetsSeq MeetsSeq2 MeetsSeq3 SeqRoads2
section
variable {prog : Program} {w : World}
end
end PySem.SeqAt
/-! DLG: == and != of data with instances inside, over data. -/
namespace DL
open PySem L2
variable [Tbl]
section
variable {X : Cx} {pins : List (Addr × Obj)} {σ : L2.St} {F H : Hp} {s : Shared}
end
end DL
/-! DLO: instances called, len of instances, chains, join, list(range). -/
namespace DL
open PySem L2 PySem.Spec PyProof.Rows
variable [Tbl]
section
variable {K : PySem.W.Frag} {E E1 : XK} {ta tb tc to te : TE} {wa wb wc wo we : WE} {X : Cx}
/-! ### a < b < c -/
def wChain (f g : D → D → (D → Prop) → Prop) (wa wb wc : WE) : WE := fun env er q => wa env er fun x => wb env er fun y => f x y fun z => match z with
  | .bl true => wc env er fun v => g y v q
  | .bl false => q (.bl false)
  | _ => False
theorem sim_chain {r r' : R2} {f g : D → D → (D → Prop) → Prop} (hf : Sim2 K r f) (hg : Sim2 K r' g) (ha : SimE K E ta wa) (hb : SimE K E tb wb) (hc : SimE K E tc wc) : SimE K E (tChain r r' ta tb tc) (wChain f g wa wb wc) := fun B env F σ H Q er q a l w k =>
  ha B env F σ H _ er _ a l w fun x d F1 H1 s1 r1 w1 => hb B env F1 σ H1 _ er _ (a.step s1) l w1 fun y e F2 H2 s2 r2 w2 =>
    hf F2 H2 x y d e _ _ s2.fh (r1.mono s2.ff) r2 w2 fun z dz F3 H3 s3 r3 w3 => by
      cases r3 with
      | bl b =>
        refine ⟨b, rfl, ?_⟩
        cases b with
        | true =>
          show (if true = true then _ else _)
          rw [if_pos rfl]
          have s123 := (s1.trans s2).trans s3
          exact hc B env F3 σ H3 _ er _ (a.step s123) l w3 fun v dv F4 H4 s4 r4 w4 => hg F4 H4 y v e dv Q q s4.fh (r2.mono (s3.trans s4).ff) r4 w4 (k.step (s123.trans s4))
        | false =>
          show (if false = true then _ else _)
          rw [if_neg Bool.false_ne_true]
          exact k _ _ F3 H3 ((s1.trans s2).trans s3) (.bl false) w3
      | _ => exact w3.elim
/-! ### an instance called -/
def wCallI0 (C : Addr) (n : Nat) (S : FS) (wf : WE) (wr : WA) : WE := fun env er q => wf env er fun o => match o with
  | .ins C' _ => C' = C ∧ wr env er fun ds => (o :: ds).length = n ∧ S (o :: ds) (fun _ => False) q
  | _ => False
def wCallIK0 (C : Addr) (mm n : Nat) (S : FS) (g : List D → List D → List D) (wf : WE) (wk : WA) : WE := fun env er q => wf env er fun o => match o with
  | .ins C' _ => C' = C ∧ wk env er fun zs => zs.length = mm ∧ (g [o] zs).length = n ∧ S (g [o] zs) (fun _ => False) q
  | _ => False

/-! ### len of an instance -/
def dLenO (C : Addr) (S : FS) : List D → (D → Prop) → Prop := fun ds q => match ds with
  | [.ins C' fs] => C' = C ∧ S [.ins C' fs] (fun _ => False) fun z => match z with
    | .int n => 0 ≤ n ∧ n < 2 ^ 63 ∧ q (.int n)
    | _ => False
  | _ => False

/-! ### sep.join(texts) -/
def strsD : List D → Option (List Str)
  | [] => some []
  | .str x :: r => (strsD r).map (x :: ·)
  | _ => none
def wJoin (wa : WE) (wo : WO) : WE := fun env er q => wa env er fun x => match x with
  | .str a => wo env er fun l => ∃ ys, strsD l = some ys ∧ (ys.map (·.length)).sum + ys.length * a.length ≤ 16777216 ∧ q (.str (Txt.join a ys))
  | _ => False

/-! ### list(range(..)) -/
def wLRg1 (wa : WE) : WO := fun env er q => wa env er fun x => match x with
  | .int n => RgOk 0 n ∧ q (rngD 0 n.toNat)
  | _ => False
end
end DL
/-! DLY: generators of the data layer: a for amid a generator's body. -/
namespace DL
open PySem L2 PySem.Spec PyProof.Rows GenW
variable [Tbl]

section
variable {M : Model} {A : Around} {R : GenEnd} {Y : Protocol} {n : Nat} {s₀ : Shared} {c : Code} {fs : List Frame} {s : Shared} {env : Env}
  {K : Flow → Sem PySem.Fin} {J : Value → Sem PySem.Fin} {gd : Bool → Bool} {lv : List Value → List Value}
end
section
variable {prog : Program} {w : World} {A : Around} {R : GenEnd} {Y : Protocol} {n : Nat} {s₀ : Shared} {fs : List Frame} {s : Shared} {env : Env}
end

section
variable {X : Cx}
end
end DL
/-! ### readings of a generator's body -/
namespace DL
open PySem L2 PySem.Spec PyProof.Rows GenW
variable [Tbl]
structure GN where
  nx : List D → EV → Prop
  bk : List D → EV → Prop := fun _ _ => False
  ct : List D → EV → Prop := fun _ _ => False
  er : ER := fun _ => False
abbrev GW := GN → List D → EV → Prop
section
variable {K : PySem.W.Frag} {E : XK} {te : TE} {we : WE} {ts : TS} {ws : WS} {tg tg' : TGn} {w w' : GW}

/-! ### a generator def, list(g(..)) -/
/-- a generator def's meaning -/
abbrev FG := List D → ER → (List D → Prop) → Prop
section
variable {P : Program} {w0 : World} {mg : Str → Option Value} {base : Heap}
end
/-- a generator expression whose value one hears out -/
abbrev WG := EV → ER → (List D → Prop) → Prop
/-! the call with keywords -/
section
variable {X : Cx} {k n : Nat} {f : Addr} {fd : FuncData} {ps ks : List Str} {sp : SpG} {x : Str} {p pos : Pos} {e : Expr} {es : List Expr} {kws : List Keyword} {t tk : TA} {g : List Value → List Value → List Value} {gV : List V → List V → List V}
end
end
end DL
/-! ### list(text), list(list) -/
namespace DL
open PySem L2 PySem.Spec PyProof.Rows
variable [Tbl]
section
variable {prog : Program} {w : World} {A : Around} {E : Value → Shared → Prop} {s : Shared}
end
section
variable {X : Cx}
end
section
variable {K : PySem.W.Frag} {E : XK} {te : TE} {we : WE} {t : TA} {w : WA}
end
end DL
/-! DLT: len(set([texts])). -/
namespace DL
open PySem PySem.Spec PyProof.Rows
variable [Tbl]
section
variable {prog : Program} {w : World} {A : Around} {R : Result → Shared → Prop} {I : Addr} {fp wr : List Addr} {G : Array GenState → Array GenState → Prop} {n : Nat} {P : Nat → Value → Prop} {St : Nat → Shared → Prop}
end
end DL
namespace DL
open PySem PySem.Spec PyProof.Rows
variable [Tbl]
section
variable {prog : Program} {w : World} {A : Around} {E : Value → Shared → Prop} {s : Shared}
abbrev setO (led : Bool) : Obj := { cls := .type "set", dict := none, data := .set #[] 0 (.fresh 0 0 led) }
end
end DL
namespace DL
open PySem PySem.Spec PyProof.Rows L2
variable [Tbl]
/-! len(set(list of texts)) -/
section
variable {X : Cx}
end
section
variable {K : PySem.W.Frag} {E : XK} {te : TE} {wo : WO}
end
end DL
/-! DLP: two own lists at once; an item that is taken out of one list and put behind another. -/
namespace DL
open PySem L2
variable [Tbl]
section
variable {K : PySem.W.Frag} {E : XK} {ta tb te : TE} {wa wb we : WE} {i j : Nat}
end
end DL
namespace DL
open PySem L2
variable [Tbl]
section
variable {K : PySem.W.Frag} {E : XK} {ta tb te : TE} {wa wb we : WE} {i j : Nat}
end
end DL
namespace DL
open PySem L2
variable [Tbl]
section
variable {K : PySem.W.Frag} {E : XK} {ta tb te : TE} {wa wb we : WE} {i j : Nat}
end
end DL
/-! DLR1: an except clause with three classes and a name; defs called with the exception that is handled. -/
namespace DL
open PySem L2 PySem.Spec PyProof.Rows
/-! ### a def called with the exception that is handled -/
section
variable {X : Cx} {CX : CXT} {k : Nat} {f : Addr} {fd : FuncData} {ps : List Str} {sp : Addr × Obj → Sp} {E : XK} {x : Str} {q pos : Pos} {e : Expr} {es : List Expr} {t : TA} {p : Addr × Obj}
end
end DL
/-! DLR2: bools counted, repr of data, what is asked of the exception that is handled. -/
namespace DL
open PySem L2 PySem.Spec PyProof.Rows
/-! ### list.count(True) -/
def isTrue : Value → Bool
  | .bool b => b
  | _ => false
theorem bools_of_vals : ∀ {bs : List Bool} {us : List Value}, Vals (bs.map V.bl) us → us = bs.map Value.bool
  | [], _, .nil => rfl
  | b :: bs, _, .cons h r => by
    cases h
    rw [bools_of_vals r]
    rfl
theorem countP_bools : ∀ bs : List Bool, (bs.map Value.bool).countP isTrue = bs.count true
  | [] => rfl
  | b :: bs => by
    rw [List.map_cons, List.countP_cons, List.count_cons, countP_bools bs]
    cases b <;> rfl
section
variable {X : Cx}
def rCntB (K : PySem.W.Frag) : V → List V → Hp → VK → Prop := fun x xs H Q => ∃ (p : Addr) (bs : List Bool), x = .ref p ∧ xs = [.bl true] ∧ SqL K H p (bs.map V.bl) ∧ Q (.int (bs.count true : Nat)) H
theorem mt_cntB : MtR X "list.count" (rCntB X.K) := by
  intro pins s σ H x xs v us Q I rx rxs h
  obtain ⟨p, bs, rfl, rfl, hs, q⟩ := h
  cases rx
  obtain ⟨u, rfl, ru⟩ := rxs.one
  obtain rfl : u = Value.bool true := ru
  obtain ⟨its, rv, ⟨⟨cls, dd, data, sl⟩, n, ho, hc, hdn, hd⟩, hlen⟩ := I.list hs
  simp only at hc hd
  subst hc hd
  have hi := bools_of_vals rv
  subst hi
  refine call_meets PySem.F.slot_list_count ⟨_, ho, rfl⟩ PySem.F.entry_list_count (PySem.F.args_list_count_2 _ _) (SeqAt.list_countAt p _ n dd sl (.bool true) isTrue) ⟨ho, fun y hy => ?_, ?_⟩
  · have hy : y ∈ bs.map Value.bool := by simpa using hy
    obtain ⟨b, _, rfl⟩ := List.mem_map.mp hy
    have : isTrue (.bool b) = (b == true) := by cases b <;> rfl
    rw [this]
    exact SeqAt.EqAt.bool_bool b true
  · refine ⟨.int (bs.count true : Nat), H, I.tok _, ⟨s.toks, ?_⟩, q⟩
    show Value.int (((bs.map Value.bool).toArray.toList.countP isTrue : Nat) : Int) s.toks = _
    rw [List.toList_toArray, countP_bools]
/-! ### repr(data) -/
/-! ### the exception that is handled -/
/-- what an error class must say, so that its instances are asked rightly -/
structure ErrK (K : PySem.W.Frag) (C : Addr) : Prop where
  xf : XfC K C
  cl : (PySem.W.clsIn K C).isSome = true
  ha : PySem.W.findIn K (.ref C) "__class__" = some (some (.builtin "object.__class__"))
  hn : PySem.W.specialIn K (.builtin "object.__class__") "__get__" = some (some (.builtin "getset_descriptor.__get__"))
  ht : PySem.W.takesIn K (.builtin "object.__class__") = some true
  hm : PySem.W.mroIn K C (.type "object") = some true
end
end DL
/-! DLR3: defs called where no repr is at work (FnG), errors raised, what a told act comes to. -/
namespace DL
open PySem L2 PySem.Spec PyProof.Rows
/-! ### FnG -/
structure FnG (P : Program) (w : World) (K : PySem.W.Frag) (mg : Str → Option Value) (base : Heap) (CX : CXT) (k : Nat) (f : Addr) (fd : FuncData) (ps : List Str) (sp : Sp) : Prop where
  len : ∀ vs H Q E, sp vs H Q E → vs.length = ps.length
  run : ∀ (A : Around) (outer : List Env) (s : Shared) (H : Hp) (args : Args) (us : List Value) (vs : List V) (Q : VK) (E : XK), Room k A → A.guards = some [] → Env0 P w K mg base A outer s H →
    BindsTo s fd args (ps.zip us) → Vals vs us → sp vs H Q E → codeAny (model P w) A (.call (.ref f) args) (CR CX outer P w H s Q E) s
section
variable [Tbl] {P : Program} {w : World} {K : PySem.W.Frag} {mg : Str → Option Value} {base : Heap}
theorem okR_def {x qual : Str} {st : Stmt} {f : Addr} {fd : FuncData} {N ps : List Str} {k : Nat} {S : FS} (F : Fun K x qual st f fd) (sc : FnScope N ps (defScope st)) (hn : ps.length ≤ N.length)
    (hb : ∀ (cdv : Value) (A : Around) (outer : List Env) (s : Shared) (H : Hp) (E : XK), Room k (A.deeper (envOfC qual (defScope st) s.heap.objs.size f cdv)) → A.guards = some [] →
      ∃ t ws, PSs (cxOf (L2.CX P w) P w K mg base N qual (defScope st) f cdv A outer s H E) (defBody st) t ∧ SimS K E t ws ∧
        ∀ ds er q, ds.length = ps.length → S ds er q → ws { nx := fun _ => q .non, rt := q, er := er } (envOf N.length ds)) :
    FnG P w K mg base (L2.CX P w) (k + 1) f fd ps (spOf K ps.length S) := by
  refine ⟨fun vs H Q E h => spOf_len h, fun A outer s H args us vs Q E hr hg e0 bd r h => ?_⟩
  obtain ⟨oc, od, kV, doc, pm, an, cdv, ct, osl, rfl, lk, hcd⟩ := F.ex
  refine LamX.run_ofS lk hcd sc hr e0 bd r (spOf_len h) fun hr2 => ?_
  obtain ⟨t, ws, h1, h2, h3⟩ := hb cdv A outer s H E hr2 hg
  exact ⟨t, h1, body_of h2 hn h3 h⟩
end
section
variable {X : Cx} {CX : CXT} {k : Nat} {f : Addr} {fd : FuncData} {ps : List Str} {sp : Sp} {E : XK} {x : Str} {q pos : Pos} {e : Expr} {es : List Expr} {t : TA}
theorem pe_callG (F : FnG X.prog X.w X.K X.mg X.base CX k f fd ps sp) (hr : Room k X.A) (hgd : X.A.guards = some []) (hg : Gl X x) (hm : X.mg x = some (.ref f)) (hk : PySem.W.keepIn X.K (.ref f) = true) (hb : Binds X.K fd ps []) (hx : Passes CX X E)
    (ha : PA X (e :: es) t) (hdb : (x == ("__debug__" : Str)) = false := by decide) (he : starEach (e :: es) X.env = (false, eval e X.env) :: starEach es X.env := by rfl) (hpl : (backTo pos (starEach es X.env)).any (·.1) = false := by rfl) :
    PE X (.Call (.Name x q) (e :: es) [] pos) (tCall sp [] E t) := ⟨fun pins s σ H Q I h => by
  refine wpAny_Call_Name_kw (ld_glob I hg hm (PySem.W.callWith_K (h₀ := X.base) I.ok.mod.kin hk (thn (ha.run pos pins s σ H _ I h) fun us t1 hv => ?_) he hpl) hdb)
  obtain ⟨vs, H1, I1, r, q1⟩ := hv
  rw [List.append_nil] at q1
  refine ⟨I1.kIn, ?_⟩
  have l1 : us.length = ps.length := by rw [← r.length]; exact F.len _ _ _ _ q1
  have b1 := hb t1 us I1.kIn (by rw [List.append_nil]; exact l1)
  rw [List.append_nil] at b1
  refine wpAny_call (codeAny_mono (F.run X.A X.stack t1 H1 ⟨us, []⟩ us vs Q E hr hgd I1.env0 b1 r q1) fun z t2 h2 => ?_)
  cases z with
  | error e2 => exact hx pins σ H1 t1 e2 t2 I1 h2
  | ok fl =>
    cases fl with
    | ret u => exact I1.after h2
    | _ => exact False.elim h2⟩
end
/-! ### errors made and raised -/
def spEx (C : Addr) (f : Str) : Sp := fun vs H Q _ => ∃ (a : Addr) (y : V), vs = [.ref a, y] ∧ H a = some (exo a C none) ∧ ∀ d, H d = none → d ≠ a → Q .non (upd (upd H d (exd d [(f, y)])) a (exo a C (some d)))
section
variable {P : Program} {w : World} {K : PySem.W.Frag} {mg : Str → Option Value} {base : Heap}
end
end DL
/-! DLR4: told: what an act returns, or the error that it raises; lambdas; the errors' classes. -/
namespace DL
open PySem L2 PySem.Spec PyProof.Rows
/-- what a def makes of an error -/
abbrev FE := Er → (D → Prop) → Prop
section
variable [Tbl]
/-! ### the act -/
end
end DL
/-! DLR5: the errors' classes by data, readings of a def that sorts errors. -/
namespace DL
open PySem L2 PySem.Spec PyProof.Rows
def ebts : List String := ["ValueError", "LookupError", "ArithmeticError"]
abbrev ECs := List (Addr × List Addr × List String)
structure EcOk (K : PySem.W.Frag) (l : ECs) (efs : List Str) : Prop where
  ok : ∀ p ∈ l, ErrK K p.1 ∧ OwnM K p.1 p.2.1 p.2.2
  na : ∀ p ∈ l, ∀ f ∈ efs, PySem.W.findIn K (.ref p.1) f = some none
def isEO (l : ECs) (C E : Addr) : Option Bool := match l.lookup C, l.lookup E with
  | some u, some _ => some (u.1.contains E)
  | _, _ => none
def isET (l : ECs) (C : Addr) (T : String) : Option Bool := match l.lookup C with
  | some u => if T ∈ ebts then some (u.2.contains T) else none
  | none => none
section
variable {K : PySem.W.Frag} {l : ECs} {efs : List Str} {C E : Addr} {b : Bool}
theorem look_in {β : Type} {C : Addr} {u : β} : ∀ {cs : List (Addr × β)}, cs.lookup C = some u → (C, u) ∈ cs
  | [], h => by cases h
  | (a, v) :: cs, h => by
    rw [List.lookup_cons] at h
    cases e : C == a with
    | true =>
      rw [e] at h
      cases h
      rw [beq_iff_eq.mp e]
      exact List.mem_cons_self
    | false =>
      rw [e] at h
      exact List.mem_cons_of_mem _ (look_in h)
theorem isEO_get (e : isEO l C E = some b) : ∃ u v, (C, u) ∈ l ∧ (E, v) ∈ l ∧ b = u.1.contains E := by
  unfold isEO at e
  cases h1 : l.lookup C with
  | none =>
    rw [h1] at e
    cases e
  | some u =>
    cases h2 : l.lookup E with
    | none =>
      rw [h1, h2] at e
      cases e
    | some v =>
      rw [h1, h2] at e
      cases e
      exact ⟨u, v, look_in h1, look_in h2, rfl⟩
theorem isEO_ok (h : EcOk K l efs) (e : isEO l C E = some b) : PySem.W.kitOne K (.ref C) (.ref E) = some b := by
  obtain ⟨u, v, h1, h2, rfl⟩ := isEO_get e
  exact (h.ok _ h1).2.sub (h.ok _ h2).2
theorem isET_ok (h : EcOk K l efs) {T : String} (e : isET l C T = some b) : PySem.W.kitOne K (.ref C) (.type T) = some b := by
  unfold isET at e
  cases h1 : l.lookup C with
  | none =>
    rw [h1] at e
    cases e
  | some u =>
    rw [h1] at e
    have e : (if T ∈ ebts then some (u.2.contains T) else none) = some b := e
    split at e
    · rename_i hT
      cases e
      have m := (h.ok _ (look_in h1)).2
      have km : PySem.W.kitMeta T = true := by
        unfold ebts at hT
        simp only [List.mem_cons, List.not_mem_nil, or_false] at hT
        rcases hT with rfl | rfl | rfl <;> kernel_rfl
      unfold PySem.W.kitOne
      rw [if_neg (by intro z; cases (beq_iff_eq.mp z))]
      show (if PySem.W.kitMeta T = true then PySem.W.subIn K (.ref C) (.type T) else none) = _
      rw [if_pos km]
      show PySem.W.mroIn K C (.type T) = _
      rw [m.mro, mroL_ty]
    · cases e
end
/-! ### readings -/
section
variable [Tbl] {K : PySem.W.Frag} {E : XK} {a C dd : Addr} {i : Nat} {b : Option Bool}
def wCntB (wo : WO) : WE := fun env er q => wo env er fun l => ∃ bs, bools l = some bs ∧ q (.int (bs.count true : Nat))
theorem sim_cntB {ta : TE} {wo : WO} (h : SimL K E ta wo) : SimE K E (tBM K "list" (rCntB K) ta (tCons (tC (.bl true)) tNil)) (wCntB wo) := fun B env F σ H Q er q z l w k =>
  h B env F σ H _ er _ z l w fun p xs ds F1 H1 s1 h1 r1 ⟨bs, e, w1⟩ => by
    rw [bools_rep r1 e] at h1
    exact ⟨.inl ⟨rfl, _, h1⟩, p, bs, rfl, rfl, h1, k _ _ F1 H1 s1 (.int _) w1⟩
end
end DL
/-! DLR6: the end of a law whose defs make lambdas and tell reprs (FnG). -/
namespace DL
open PySem L2 PySem.Spec PyProof.Rows
abbrev emptyT : Obj := { cls := .none, data := .fields #[] }
abbrev scrO (us : List Value) : Obj := { cls := .type "list", data := .seq us.toArray }
/-- what is tracked at the start: the tables of the lambdas' makers, and the script unless it is known already -/
def stH (K : PySem.W.Frag) (Ps : List Addr) (a : Addr) (us : List Value) (ns : List Int) : Hp := fun b =>
  if Ps.contains b then some (.tbl #[]) else if b = a then (match K.lookup a with
    | none => some (.frz (scrO us) (.lst (ns.map V.int)))
    | some _ => none) else none
section
variable {K : PySem.W.Frag} {Ps : List Addr} {a b : Addr} {us : List Value} {ns : List Int} {u : HO}
theorem stH_tab (h : b ∈ Ps) : stH K Ps a us ns b = some (.tbl #[]) := if_pos (List.contains_iff_mem.mpr h)
theorem stH_inv (e : stH K Ps a us ns b = some u) : (b ∈ Ps ∧ u = .tbl #[]) ∨ (b = a ∧ K.lookup a = none ∧ u = .frz (scrO us) (.lst (ns.map V.int))) := by
  unfold stH at e
  by_cases hb : Ps.contains b = true
  · rw [if_pos hb] at e
    exact .inl ⟨List.contains_iff_mem.mp hb, (Option.some.inj e).symm⟩
  · rw [if_neg hb] at e
    by_cases ha : b = a
    · rw [if_pos ha] at e
      split at e
      · rename_i hk
        exact .inr ⟨ha, hk, (Option.some.inj e).symm⟩
      · cases e
    · rw [if_neg ha] at e
      cases e
end
/-- the law's def called at the start -/
theorem law_callG {P : Program} {w : World} {K : PySem.W.Frag} {mg mb : Str → Option Value} {k : Nat} {fa a : Addr} {cs : List (Addr × Addr × Str)} {ds : List (Addr × NdefX.NTab)} {ps : List (Addr × Addr)} {fd : FuncData} {x : Str} {s : Shared} (hps : ps = cs.map (fun p => (p.1, p.2.1)) ++ ds.map fun p => (p.1, p.2.1)) {us : List Value} {ns : List Int}
    (KX : K.In s.heap) (hgl : s.heap.Ns mainGlobals mg) (hbi : s.heap.Ns builtinsNs mb) (hboot : ∀ y : Str, y ≠ "__name__" → mb y = bootBuiltins y) (hnl : s.heap.NoLimit) (hgn : s.gens = #[])
    (hmod : ∃ (bm : Addr) (ob : Obj), mg "__builtins__" = some (.ref bm) ∧ bm ≠ builtinsNs ∧ s.heap.get? bm = some ob ∧ ob.cls = .type "module" ∧ ob.dict = some builtinsNs ∧ ob.data = .plain)
    (hT : ∀ p ∈ ps, s.heap.get? p.2 = some emptyT ∧ K.lookup p.2 = none ∧ PySem.W.codeHdIn K p.1 p.2 = true)
    (hs : s.heap.get? a = some (scrO us)) (hi : IntsAre us ns) (hl : ns.length ≤ 63) (hr : Room k callerA) (hbind : ∀ (s : Shared) (u : Value), BindsTo s fd ⟨[u], []⟩ [(x, u)])
    (F : ∀ base : Heap, K.In base → base.Ns mainGlobals mg → (∀ p ∈ ps, LamX.TabB base mg p.1 p.2) → FnG P w K mg base (L2.CX P w) k fa fd [x] (@spOf ⟨cs.map (·.2), ds.map (·.2), w⟩ K 1 sLawD)) :
    codeAny (model P w) callerA (.call (.ref fa) ⟨[.ref a], []⟩) (fun r t => r = .ok (.ret (.bool true)) ∧ OldK s.heap t.heap ∧ t.os = s.os ∧ AllBare t.gens) s := by
  have H0 : ∃ H, H = stH K (ps.map (·.2)) a us ns := ⟨_, rfl⟩
  obtain ⟨H, eH⟩ := H0
  have inv : ∀ b u, H b = some u → (b ∈ ps.map (·.2) ∧ u = .tbl #[]) ∨ (b = a ∧ K.lookup a = none ∧ u = .frz (scrO us) (.lst (ns.map V.int))) := fun b u e => stH_inv (by rw [← eH]; exact e)
  have tab : ∀ b ∈ ps.map (·.2), s.heap.get? b = some emptyT ∧ K.lookup b = none := fun b hb => by
    obtain ⟨p, hp, rfl⟩ := List.mem_map.mp hb
    exact ⟨(hT p hp).1, (hT p hp).2.1⟩
  have len : us.length = ns.length := hi.length
  have vs : Vals (ns.map V.int) us := vals_ints hi
  have okH : HOk P w H s.heap := fun b u e => by
    rcases inv b u e with ⟨hb, rfl⟩ | ⟨rfl, _, rfl⟩
    · exact (tab b hb).1
    · exact ⟨hs, by rw [List.length_map]; exact Nat.le_trans hl (by decide), us, _, vs, hs⟩
  -- what is no empty table and no list is not tracked
  have out : ∀ b (o : Obj), s.heap.get? b = some o → o ≠ emptyT → o ≠ scrO us → H b = none := fun b o e n1 n2 => by
    cases q : H b with
    | none => rfl
    | some u =>
      rcases inv b u q with ⟨hb, _⟩ | ⟨rfl, _, _⟩
      · exact (n1 (Option.some.inj (e.symm.trans (tab b hb).1))).elim
      · exact (n2 (Option.some.inj (e.symm.trans hs))).elim
  have ns_ : ∀ {b : Addr} {m : Str → Option Value}, s.heap.Ns b m → (hidT s.heap H).Ns b m := fun {b m} ⟨o, es, n, e, d, r⟩ => ⟨o, es, n, hidT_get e (out b o e (fun z => by rw [z] at d; cases d) fun z => by rw [z] at d; cases d), d, r⟩
  have KB : K.In (hidT s.heap H) := fun b o e => by
    refine hidT_get (KX b o e) ?_
    cases q : H b with
    | none => rfl
    | some u =>
      rcases inv b u q with ⟨hb, _⟩ | ⟨rfl, hk, _⟩
      · rw [(tab b hb).2] at e
        cases e
      · rw [hk] at e
        cases e
  obtain ⟨mc, c1, c2⟩ := hnl
  have modB : L2.Mod K mg (hidT s.heap H) := ⟨KB, ns_ hgl, ⟨mb, ns_ hbi, hboot⟩, mc, ns_ c1, c2⟩
  have e0 : Env0 P w K mg (hidT s.heap H) callerA [] s H := ⟨rfl, modB, fun b o e => of_hidT e, Nat.le_of_eq (hidT_size _ _), trivial, fun b hb => absurd (show b ∈ ([] : List Addr) from hb) List.not_mem_nil, okH, .of_eq hgn⟩
  have tbs : ∀ p ∈ ps, LamX.TabB (hidT s.heap H) mg p.1 p.2 := fun p hp => by
    obtain ⟨h1, h2, h3⟩ := hT p hp
    obtain ⟨bm, ob, b1, b2, b3, b4, b5, b6⟩ := hmod
    have hm : (mainGlobals : Addr) ≠ p.2 := fun z => by
      obtain ⟨o, es, n, e, d, _⟩ := hgl
      rw [z, h1] at e
      cases e
      cases d
    refine ⟨PySem.W.codeHd_of_K KB h3, ⟨bm, ob, b1, b2, fun z => ?_, fun z => ?_, hidT_get b3 (out bm ob b3 (fun z => ?_) fun z => ?_), b4, b5, b6⟩, hm⟩
    · obtain ⟨o, es, n, e, d, _⟩ := hgl
      rw [z, e] at b3
      cases b3
      rw [d] at b6
      cases b6
    · rw [z, h1] at b3
      cases b3
      cases b6
    · rw [z] at b6
      cases b6
    · rw [z] at b6
      cases b6
  have sq : SqL K H a (ns.map V.int) := by
    cases hk : K.lookup a with
    | some o =>
      have e := Option.some.inj ((KX a o hk).symm.trans hs)
      exact .inr ⟨o, us.toArray, _, hk, by rw [e], by rw [e], by rw [e], by rw [List.size_toArray, len]; exact Nat.le_trans hl (by decide), by simpa using vs⟩
    | none =>
      have na : ¬ (ps.map (·.2)).contains a = true := fun z => by
        have z1 := (tab a (List.contains_iff_mem.mp z)).1
        rw [hs] at z1
        cases z1
      refine .inl (.inr ⟨scrO us, ?_⟩)
      rw [eH]
      unfold stH
      rw [if_neg na, if_pos rfl, hk]
  have tbH : @TB ⟨cs.map (·.2), ds.map (·.2), w⟩ H := by
    refine ⟨fun q hq => ?_, fun q hq => ?_⟩
    · obtain ⟨p, hp, rfl⟩ := List.mem_map.mp hq
      exact LamX.TabS.nil (by rw [eH]; exact stH_tab (List.mem_map.mpr ⟨(p.1, p.2.1), by rw [hps]; exact List.mem_append_left _ (List.mem_map.mpr ⟨p, hp, rfl⟩), rfl⟩))
    · obtain ⟨p, hp, rfl⟩ := List.mem_map.mp hq
      exact NdefX.TabN.nil (by rw [eH]; exact stH_tab (List.mem_map.mpr ⟨(p.1, p.2.1), by rw [hps]; exact List.mem_append_right _ (List.mem_map.mpr ⟨p, hp, rfl⟩), rfl⟩))
  refine codeAny_mono ((F _ KB (ns_ hgl) tbs).run callerA [] s H ⟨[.ref a], []⟩ [.ref a] [.ref a] (fun v _ => v = .bl true) (fun _ _ _ => False) hr rfl e0 (hbind s (.ref a)) (.cons rfl .nil) (@sp_law ⟨cs.map (·.2), ds.map (·.2), w⟩ K H a ns tbH hl sq)) fun r t h => ?_
  rcases r with e | fl
  · obtain ⟨_, _, _, _, _, _, _, _, _, _, _, _, h⟩ := (show L2.CX P w [] H s (fun _ _ _ => False) e t from h)
    exact h.elim
  · cases fl with
    | next => exact (show False from h).elim
    | brk => exact (show False from h).elim
    | cont => exact (show False from h).elim
    | ret u =>
      obtain ⟨v, H1, os, bare, un, ok1, rv, rfl⟩ := h
      obtain rfl : u = Value.bool true := rv
      have grow : ∀ b ∈ ps.map (·.2), ∃ more, t.heap.get? b = some { cls := .none, data := .fields more } := fun b hb => by
        obtain ⟨more, z⟩ := un.tbls b #[] (by rw [eH]; exact stH_tab hb)
        exact ⟨_, ok1 b _ z⟩
      have stay : ∀ b o, b ∉ ps.map (·.2) → s.heap.get? b = some o → t.heap.get? b = some o := fun b o nb e => by
        cases q : H b with
        | none => exact un.keep b o e q (fun z => absurd (show b ∈ ([] : List Addr) from z) List.not_mem_nil) List.not_mem_nil
        | some u =>
          rcases inv b u q with ⟨hb, _⟩ | ⟨rfl, _, rfl⟩
          · exact (nb hb).elim
          · have z := (ok1 b _ (un.frzs b _ _ q)).1
            rw [hs] at e
            rw [← e]
            exact z
      refine ⟨rfl, ⟨fun b o e => ?_, fun b o e => ?_⟩, os, bare⟩
      · by_cases hb : b ∈ ps.map (·.2)
        · obtain ⟨more, hm⟩ := grow b hb
          obtain ⟨p, hp, rfl⟩ := List.mem_map.mp hb
          obtain ⟨h1, _, h3⟩ := hT p hp
          have e1 := Option.some.inj (e.symm.trans h1)
          subst e1
          exact .inr (.inl ⟨((PySem.W.codeHd_of_K KX h3).tab h1).isCodeTable, rfl, #[], more, rfl, by rw [Array.empty_append]; exact hm⟩)
        · exact .inl (stay b o hb e)
      · by_cases hb : b ∈ ps.map (·.2)
        · obtain ⟨more, hm⟩ := grow b hb
          exact ⟨_, hm⟩
        · exact ⟨o, stay b o hb e⟩
end DL
/-! DLR7: sum, the told call as one rule, names of built-ins. -/
namespace DL
open PySem L2 PySem.Spec PyProof.Rows
theorem bt_ValueError : bootBuiltins "ValueError" = some (.type "ValueError") := by kernel_rfl
theorem bt_LookupError : bootBuiltins "LookupError" = some (.type "LookupError") := by kernel_rfl
theorem bt_ArithmeticError : bootBuiltins "ArithmeticError" = some (.type "ArithmeticError") := by kernel_rfl
theorem hu128 {k : Nat} {A : Around} (hr : Room k A) : A.units + 128 < cLine := by
  have := hr.un
  omega
/-! ### sum(ints) -/
def intsOf : List D → Option (List Int)
  | [] => some []
  | .int i :: r => (intsOf r).map (i :: ·)
  | _ :: _ => none
section
variable [Tbl] {K : PySem.W.Frag}
end
/-! ### told -/
/-- the name of a lambda that the def qual makes -/
abbrev lamN (qual : Str) : Str := (qual ++ (".<locals>." : Str)) ++ ("<lambda>" : Str)
section
variable [Tbl] {X : Cx}
end
end DL
/-! DLN: enumerate of a tuple. -/
namespace DL
open PySem L2 PySem.Spec PyProof.Rows
open Sem (wp)
open AutoSeq1 (wpAny_loadPart')



/-- over data -/
def enumD : Nat → List D → List D
  | _, [] => []
  | i, d :: r => .tup [.int (i : Nat), d] :: enumD (i + 1) r
section
variable [Tbl]
def iEnumW (wa : WA) : WI := fun env er q => wa env er fun ds => match ds with
  | [.tup l] => q (enumD 0 l)
  | _ => False
end
end DL
/-! DLD: dicts with texts as keys; new values of any kind; lists of texts. -/
namespace DL
open PySem L2

/-! ### tables -/
def sput {α : Type} (xs : List (Str × α)) (k : Str) (v : α) : List (Str × α) := if (xs.any fun p => decide (p.1 = k)) = true then xs.map (fun p => if p.1 = k then (p.1, v) else p) else xs ++ [(k, v)]
variable [Tbl]
theorem RepF.anyK {K : PySem.W.Frag} {F : Hp} {k : Str} : ∀ {xs : List (Str × V)} {fs : List (Str × D)}, RepF K F xs fs → (xs.any fun p => decide (p.1 = k)) = fs.any fun p => decide (p.1 = k)
  | _, _, .nil => rfl
  | (n, v) :: xs, (_, d) :: fs, .cons h r => by
    rw [List.any_cons, List.any_cons, RepF.anyK r]
theorem RepF.mapPut {K : PySem.W.Frag} {F : Hp} {k : Str} {y : V} {d : D} (hy : Rep K F y d) : ∀ {xs : List (Str × V)} {fs : List (Str × D)}, RepF K F xs fs → RepF K F (xs.map (fun p => if p.1 = k then (p.1, y) else p)) (fs.map (fun p => if p.1 = k then (p.1, d) else p))
  | _, _, .nil => .nil
  | (n, v) :: xs, (_, e) :: fs, .cons h r => by
    rw [List.map_cons, List.map_cons]
    by_cases z : n = k
    · rw [if_pos z, if_pos z]
      exact .cons hy (RepF.mapPut hy r)
    · rw [if_neg z, if_neg z]
      exact .cons h (RepF.mapPut hy r)
theorem RepF.snoc {K : PySem.W.Frag} {F : Hp} {k : Str} {y : V} {d : D} (hy : Rep K F y d) : ∀ {xs : List (Str × V)} {fs : List (Str × D)}, RepF K F xs fs → RepF K F (xs ++ [(k, y)]) (fs ++ [(k, d)])
  | _, _, .nil => .cons hy .nil
  | (n, v) :: xs, (_, e) :: fs, .cons h r => .cons h (RepF.snoc hy r)
theorem RepF.sput {K : PySem.W.Frag} {F : Hp} {k : Str} {y : V} {d : D} {xs : List (Str × V)} {fs : List (Str × D)} (r : RepF K F xs fs) (hy : Rep K F y d) : RepF K F (sput xs k y) (sput fs k d) := by
  unfold DL.sput
  rw [r.anyK]
  split
  · exact RepF.mapPut hy r
  · exact RepF.snoc hy r

section
variable {K : PySem.W.Frag} {E E1 : XK} {te ta tb tc td : TE} {we wa wb wc : WE} {i j m : Nat} {X : Cx}
/-! ### new values -/
inductive NV where
  | d (v : D) | own (l : List D) | dic (fs : List (Str × D)) | dii (fs : List (Int × D)) | din (fs : List (NestedKey × D))
def NV.sv : NV → SV
  | .d v => .d v
  | .own l => .own l
  | .dic fs => .dic fs
  | .dii fs => .dii fs
  | .din fs => .din fs
abbrev WN := EV → ER → (NV → Prop) → Prop
def NvOk (K : PySem.W.Frag) (F' H H' : Hp) (x : V) : NV → Prop
  | .d v => Rep K F' x v
  | .own l => ∃ (a : Addr) (xs : List V), x = .ref a ∧ Fre H a ∧ H' a = some (.lst xs) ∧ F' a = none ∧ RepA K F' xs l
  | .dic fs => ∃ (a : Addr) (xs : List (Str × V)), x = .ref a ∧ Fre H a ∧ H' a = some (.dK (keyed xs)) ∧ F' a = none ∧ RepF K F' xs fs
  | .dii fs => ∃ (a : Addr) (xs : List V), x = .ref a ∧ Fre H a ∧ H' a = some (.dK (keyedI (fs.map Prod.fst) xs)) ∧ F' a = none ∧ RepA K F' xs (fs.map Prod.snd)
  | .din fs => ∃ (a : Addr) (ks : List (NestedKey × Addr)) (xs : List V), x = .ref a ∧ Fre H a ∧ H' a = some (DctN Tbl.w a ks xs) ∧ F' a = none ∧ (ks.map (·.1) = fs.map Prod.fst ∧ KeysAt K F' ks) ∧ RepA K F' xs (fs.map Prod.snd)
def SimN (K : PySem.W.Frag) (E : XK) (te : TE) (w : WN) : Prop := ∀ (B : Ent) (env : EV) (F : Hp) (σ : St) (H : Hp) (Q : VK) (er : ER) (q : NV → Prop), At K B env F σ H → EL K B E er → w env er q →
  (∀ (x : V) (nv : NV) (F' H' : Hp), Stp F F' H H' → NvOk K F' H H' x nv → q nv → Q x H') → te σ H Q
def nE (we : WE) : WN := fun env er q => we env er fun d => q (.d d)
def nO (wo : WO) : WN := fun env er q => wo env er fun l => q (.own l)
def nDict : WN := fun _ _ q => q (.dic [])
theorem simn_dict : SimN K E tDNewK nDict := fun B env F σ H Q er q a l w k => fun p hp =>
  k _ (.dic []) F _ (Stp.fresh a.fh hp) ⟨p, [], rfl, .inl hp, upd_same, a.fh.free hp, .nil⟩ w
def nDisp1 (wa wb : WE) : WN := fun env er q => wa env er fun k => match k with
  | .str k => wb env er fun v => q (.dic [(k, v)])
  | _ => False
/-- a new dict, locked for ever, as data -/
def tFzD (t : TE) : TE := fun σ H Q => t σ H fun v H1 => ∃ d u, v = .ref d ∧ H1 d = some u ∧ Mut (some u) ∧ ∀ od, Q v (upd H1 d (.frz od u))
theorem pe_fzD {e : Expr} (h : PE X e te) : PE X e (tFzD te) := ⟨fun pins s σ H Q I hw => thn (h.run pins s σ H _ I hw) fun v s1 ⟨x, H1, I1, r, d, u, ex, hd, mu, q⟩ => by
  obtain ⟨od, I2⟩ := I1.lock hd mu
  exact ⟨x, _, I2, r, q od⟩⟩
def wFzD (wn : WN) : WE := fun env er q => wn env er fun nv => match nv with
  | .dic fs => q (.dct fs)
  | _ => False
theorem sim_fzD {wn : WN} (h : SimN K E te wn) : SimE K E (tFzD te) (wFzD wn) := fun B env F σ H Q er q a l w k =>
  h B env F σ H _ er _ a l w fun x nv F1 H1 s1 r1 w1 => by
    cases nv with
    | dic l =>
      obtain ⟨p, xs, rfl, hp, h1, hf, r⟩ := r1
      refine ⟨p, _, rfl, h1, trivial, fun od => ?_⟩
      have s2 : Stp F F1 H (upd H1 p (.frz od (.dK (keyed xs)))) := s1.mut hp hf h1
      exact k _ _ _ _ (s2.freeze hp hf upd_same) (.dct upd_same (r.mono (same_new hf))) w1
    | _ => exact w1.elim
/-! ### stores -/
def sAsgN (i : Nat) (wn : WN) : WS := fun n env => wn env n.er fun nv => n.nx (env.set i nv.sv)
def sParN (i j : Nat) (wa wb : WN) : WS := fun n env => wa env n.er fun x => wb env n.er fun y => n.nx ((env.set i x.sv).set j y.sv)
def sParN3 (i j m : Nat) (wa wb wc : WN) : WS := fun n env => wa env n.er fun x => wb env n.er fun y => wc env n.er fun z => n.nx (((env.set i x.sv).set j y.sv).set m z.sv)
/-! ### dicts looked at -/
abbrev WD := EV → ER → (List (Str × D) → Prop) → Prop
def dOwn (i : Nat) : WD := fun env _ q => match env[i]? with
  | some (.dic fs) => q fs
  | _ => False
def dE (we : WE) : WD := fun env er q => we env er fun d => match d with
  | .dct fs => q fs
  | _ => False
/-- d[k] -/
def wDGet (wd : WD) (wk : WE) : WE := fun env er q => wd env er fun fs => wk env er fun k => match k with
  | .str k => match fs.lookup k with
    | some d => q d
    | none => False
  | _ => False
/-- k in d -/
def wDIn (wk : WE) (wd : WD) : WE := fun env er q => wk env er fun k => match k with
  | .str k => wd env er fun fs => q (.bl (fs.lookup k).isSome)
  | _ => False
def wDNotIn (wk : WE) (wd : WD) : WE := fun env er q => wk env er fun k => match k with
  | .str k => wd env er fun fs => q (.bl (!(fs.lookup k).isSome))
  | _ => False
/-- d[k] = v, one's own dict -/
def sDPutW (i : Nat) (wk wv : WE) : WS := fun n env => wv env n.er fun v => match env[i]? with
  | some (.dic fs) => wk env n.er fun k => match k with
    | .str k => fs.length < sizeLine ∧ n.nx (env.set i (.dic (sput fs k v)))
    | _ => False
  | _ => False
/-- from here on a dict as any other -/
def sFrzD (i : Nat) (w : WS) : WS := fun n env => match env[i]? with
  | some (.dic l) => w n (env.set i (.d (.dct l)))
  | _ => False
/-! ### {k: v for ..} -/
/-! ### lists of texts -/
theorem idxOf_min {α : Type} [BEq α] [LawfulBEq α] {x : α} : ∀ {ys : List α} {m : Nat}, ys[m]? = some x → m < ys.idxOf x → False
  | [], _, e, _ => by simp at e
  | y :: r, 0, e, h => by
    simp at e
    subst e
    simp at h
  | y :: r, m + 1, e, h => by
    rw [List.idxOf_cons] at h
    cases hb : y == x with
    | true =>
      rw [hb] at h
      simp at h
    | false =>
      rw [hb] at h
      simp only [cond_false] at h
      exact idxOf_min (ys := r) (m := m) (by simpa using e) (by omega)
/-- k in xs, a list of texts -/
def wInS (neg : Bool) (wa : WE) (wo : WO) : WE := fun env er q => wa env er fun x => match x with
  | .str x => wo env er fun l => ∃ ys, strsD l = some ys ∧ q (.bl (if neg then !decide (x ∈ ys) else decide (x ∈ ys)))
  | _ => False
/-- xs.index(x), a list of texts -/
def wIndexS (wo : WO) (we : WE) : WE := fun env er q => wo env er fun l => we env er fun d => match d with
  | .str x => ∃ ys, strsD l = some ys ∧ x ∈ ys ∧ q (.int (ys.idxOf x : Nat))
  | _ => False
end
end DL
/-! DLS: static methods called through their class; lists put together; ints in a tuple. -/
namespace DL
open PySem L2 PySem.Spec PyProof.Rows
section
variable {X : Cx} {CX : CXT} {k : Nat} {C g : Addr} {fd : FuncData} {ps ks : List Str} {sp : Sp} {E : XK} {o e : Expr} {es : List Expr} {kws : List Keyword} {m : Str} {pos apos : Pos} {t tk : TA} {ds : List Value} {dvs : List V} {n : Nat} {gG : List Value → List Value → List Value} {gV : List V → List V → List V}
end
section
variable [Tbl] {K : PySem.W.Frag} {E : XK} {ta tb : TE} {wa wb : WE}
/-- xs + ys, new lists both -/
def wCatO (wa wb : WO) : WO := fun env er q => wa env er fun x => wb env er fun y => x.length + y.length ≤ sizeLine ∧ q (x ++ y)
/-- x in (a, b): ints -/
def intsD : List D → Option (List Int)
  | [] => some []
  | .int x :: r => (intsD r).map (x :: ·)
  | _ => none
def dInI (neg : Bool) : D → D → (D → Prop) → Prop := fun x y q => match x, y with
  | .int i, .tup l => ∃ ns, intsD l = some ns ∧ q (.bl (if neg then !decide (i ∈ ns) else decide (i ∈ ns)))
  | .int i, .lst l => ∃ ns, intsD l = some ns ∧ q (.bl (if neg then !decide (i ∈ ns) else decide (i ∈ ns)))
  | .str i, .tup l => ∃ ns, strsD l = some ns ∧ q (.bl (if neg then !decide (i ∈ ns) else decide (i ∈ ns)))
  | .str i, .lst l => ∃ ns, strsD l = some ns ∧ q (.bl (if neg then !decide (i ∈ ns) else decide (i ∈ ns)))
  | _, _ => False
end
end DL
namespace DL
open PySem L2 PySem.Spec PyProof.Rows
end DL
/-! DLV: values of any kind: `{}` shown and compared with tuples, truths by `is`, list(tuple). -/
namespace DL
open PySem L2 PySem.Spec PyProof.Rows
section
variable {X : Cx}
end
section
variable [Tbl] {K : PySem.W.Frag} {E : XK}
/-! ### is, is not, of truths -/
/-! ### list(tuple), list(list) -/
end
end DL
/-! DLK: dicts walked, max of a dict's values, a list with one own dict in it. -/
namespace DL
open PySem L2 PySem.Spec PyProof.Rows
section
variable [Tbl] {K : PySem.W.Frag} {E : XK} {te ta tb td : TE} {we wa wb : WE} {i j : Nat}
/-! ### for k in d -/
def iKeysW (we : WE) : WI := fun env er q => we env er fun d => match d with
  | .dct fs => q (fs.map fun p => .str p.1)
  | _ => False
end
/-! ### max(d.values()) -/
section
variable {X : Cx}
end
section
variable [Tbl] {K : PySem.W.Frag} {E : XK} {te ta tb td : TE} {we wa wb : WE} {i j : Nat}
def wMaxV (we : WE) : WE := fun env er q => we env er fun d => match d with
  | .dct fs => ∃ ns : List Int, fs.map Prod.snd = ns.map D.int ∧ 0 < ns.length ∧ ∀ m, m ∈ ns → (∀ y, y ∈ ns → y ≤ m) → q (.int m)
  | _ => False
end
/-! ### X = [{}], then X[0][k] = c for all keys of a dict -/
section
variable [Tbl] {K : PySem.W.Frag} {E : XK} {te ta tb td : TE} {we wa wb : WE} {i j : Nat}
end
end DL
/-! DLTX: tuples whose object is known (made by tuple(list)), their count. -/
namespace DL
open PySem L2 PySem.Spec PyProof.Rows
section
variable {X : Cx}
end
section
variable [Tbl] {K : PySem.W.Frag} {E : XK} {te : TE} {we : WE}
/-- tuple(list): the tuple, known -/
def lTupX : List D → (D → Prop) → Prop := fun l q => q (.tux l)
/-- t.count(k), t a known tuple of ints -/
def wCntT (we : WE) (k : Int) : WE := fun env er q => we env er fun x => match x with
  | .tux l => ∃ ns : List Int, l = ns.map .int ∧ q (.int (ns.count k : Nat))
  | _ => False
end
end DL
/-! DLW1: sets of texts by their members; sorted(set(text)). -/
namespace DL
open PySem PySem.Spec PyProof.Rows
section
variable {P : Program} {w : World} {A : Around} {E : Value → Shared → Prop} {s : Shared} {a : Addr}
end
section
variable {prog : Program} {w : World} {A : Around} {R : Result → Shared → Prop} {I : Addr} {fp wr : List Addr} {G : Array GenState → Array GenState → Prop} {n : Nat} {P : Nat → Value → Prop} {St : Nat → Shared → Prop}
end
section
variable {prog : Program} {w : World} {A : Around} {E : Value → Shared → Prop} {s : Shared}
end
end DL
/-! DLW2: sorted(set(texts)), sorted(text), joined. -/
namespace DL
open PySem PySem.Spec PyProof.Rows
section
variable {P : Program} {w : World} {A : Around} {E : Value → Shared → Prop} {s : Shared} {a : Addr}
end
end DL
/-! DLW3: set(text), sorted(set(text)) as rules. -/
namespace DL
open PySem PySem.Spec PyProof.Rows L2
section
variable {X : Cx}
end
section
variable [Tbl] {K : PySem.W.Frag} {E : XK} {P : Program} {w : World} {te ta : TE} {we : WE} {wo : WO}
end
end DL
/-! DLW4: sorted(text), set(list of texts). -/
namespace DL
open PySem PySem.Spec
section
variable {prog : Program} {w : World} {A : Around} {E : Value → Shared → Prop} {s : Shared} {a : Addr}
end
end DL
namespace DL
open PySem PySem.Spec PyProof.Rows
section
variable {P : Program} {w : World} {A : Around} {E : Value → Shared → Prop} {s : Shared} {a : Addr}
end
end DL
namespace DL
open PySem PySem.Spec PyProof.Rows L2
section
variable {X : Cx}
end
section
variable [Tbl] {K : PySem.W.Frag} {E : XK} {te ta : TE} {we : WE} {wo : WO}
end
end DL
/-! DLW5: set(list of texts), sorted. -/
namespace DL
open PySem PySem.Spec PyProof.Rows
section
variable {prog : Program} {w : World} {A : Around} {E : Value → Shared → Prop} {s : Shared}
end
end DL
namespace DL
open PySem PySem.Spec PyProof.Rows L2
section
variable {X : Cx}
end
section
variable [Tbl] {K : PySem.W.Frag} {E : XK} {P : Program} {w : World} {te ta : TE} {we : WE} {wo : WO}
end
end DL
/-! DLU: one's own stack: pop, extend. -/
namespace DL
open PySem L2
section
variable [Tbl] {K : PySem.W.Frag} {E : XK} {te ta : TE} {we : WE} {wo : WO} {i j : Nat} {js : List Nat} {tg : TG} {g : D → EV → (EV → Prop) → Prop}
end
end DL
/-! DLU2: zip of two tuples, the module's dicts and tuples, str(int). -/
namespace DL
open PySem L2 PySem.Spec PyProof.Rows RZ
def zipD : List D → List D → List D
  | d :: l, e :: m => .tup [d, e] :: zipD l m
  | _, _ => []
section
variable [Tbl] {K : PySem.W.Frag} {E : XK} {te ta : TE} {tA : TA} {wa : WA} {we : WE} {wo : WO}
def iZipW (wa : WA) : WI := fun env er q => wa env er fun ds => match ds with
  | [.tup l, .tup m] => q (zipD l m)
  | _ => False
end
end DL
/-! DLU3: tuples of texts as constants of the module. -/
namespace DL
open PySem L2 PySem.Spec PyProof.Rows
section
variable [Tbl] {K : PySem.W.Frag} {E : XK} {a : Addr} {xs : List Str}
end
end DL
/-! DLC: comprehensions with two fors. -/
namespace DL
open PySem L2 PySem.Spec PyProof.Rows
section
variable [Tbl] {K : PySem.W.Frag} {E : XK} {te : TE} {we : WE} {tt tt1 : TT} {wt wt1 : WT}
/-! ### a text in a text -/
end
end DL
/-! DLF: inner defs as values: made, handed on, called. -/
namespace DL
open PySem L2 PySem.Spec PyProof.Rows
/-! ### heaps with and without known cells -/
abbrev Cs := List (Addr × Obj)
def uncH (H : Hp) (cs : Cs) : Hp := fun b => match cs.lookup b with
  | some _ => none
  | none => H b
section
variable {H : Hp} {cs : Cs} {b : Addr} {o : Obj} {u : HO}
theorem uncH_out (h : cs.lookup b = none) : uncH H cs b = H b := by
  unfold uncH
  rw [h]
end
section
variable {P : Program} {w : World} {H : Hp} {h : Heap} {cs : Cs}
end
/-! ### a call with functions of this frame -/
section
variable {X : Cx} {pins : List (Addr × Obj)} {σ : L2.St} {H : Hp} {s : Shared} {cs : Cs}
end
end DL
/-! DLF2: inner defs as values, over data. -/
namespace DL
open PySem L2 PySem.Spec PyProof.Rows
mutual
/-- no function that captured something -/
def nf : D → Bool
  | .tup l => nfA l
  | .lst l => nfA l
  | .tux l => nfA l
  | .ins _ fs => nfF fs
  | .dct fs => nfF fs
  | .exc _ fs => nfF fs
  | .fnv n caps => n.fr.isEmpty && nfA caps
  | .dci fs => nfI fs
  | .dcn fs => nfN fs
  | _ => true
def nfA : List D → Bool
  | [] => true
  | d :: r => nf d && nfA r
def nfF : List (Str × D) → Bool
  | [] => true
  | (_, d) :: r => nf d && nfF r
def nfI : List (Int × D) → Bool
  | [] => true
  | (_, d) :: r => nf d && nfI r
def nfN : List (NestedKey × D) → Bool
  | [] => true
  | (_, d) :: r => nf d && nfN r
end
theorem nfI_A : ∀ {fs : List (Int × D)}, nfI fs = true → nfA (fs.map Prod.snd) = true
  | [], _ => rfl
  | (_, d) :: r, h => by
    have h := Bool.and_eq_true_iff.mp h
    exact Bool.and_eq_true_iff.mpr ⟨h.1, nfI_A h.2⟩
theorem nfN_A : ∀ {fs : List (NestedKey × D)}, nfN fs = true → nfA (fs.map Prod.snd) = true
  | [], _ => rfl
  | (_, d) :: r, h => by
    have h := Bool.and_eq_true_iff.mp h
    exact Bool.and_eq_true_iff.mpr ⟨h.1, nfN_A h.2⟩
section
variable {K : PySem.W.Frag} {F H : Hp} {cs : Cs}
theorem unc_ne {a : Addr} {u : HO} (hc : ∀ c o, cs.lookup c = some o → F c = some (.frz o Unk)) (h : F a = some u) (n : ∀ o, HO.frz o Unk ≠ u) : uncH F cs a = some u := by
  cases y : cs.lookup a with
  | some o =>
    rw [hc a o y] at h
    exact (n o (Option.some.inj h)).elim
  | none => rw [uncH_out y]; exact h
theorem unc_t {a : Addr} {xs : List V} (hc : ∀ c o, cs.lookup c = some o → F c = some (.frz o Unk)) (h : SqT K F a xs) : SqT K (uncH F cs) a xs := by
  rcases h with (h | ⟨o, h⟩) | h
  · exact .inl (.inl (unc_ne hc h fun o z => by cases z))
  · exact .inl (.inr ⟨o, unc_ne hc h fun o z => by cases z⟩)
  · exact .inr h
theorem unc_l {a : Addr} {xs : List V} (hc : ∀ c o, cs.lookup c = some o → F c = some (.frz o Unk)) (h : SqL K F a xs) : SqL K (uncH F cs) a xs := by
  rcases h with (h | ⟨o, h⟩) | h
  · exact .inl (.inl (unc_ne hc h fun o z => by cases z))
  · exact .inl (.inr ⟨o, unc_ne hc h fun o z => by cases z⟩)
  · exact .inr h
theorem frz_ext {o : Obj} {φ : Heap → Prop} : HO.frz o Unk ≠ .ext φ := fun z => by cases z
mutual
theorem NkV.unc (hc : ∀ c o, cs.lookup c = some o → F c = some (.frz o Unk)) : ∀ {k : NestedKey} {v : V}, NkV K F k v → NkV K (uncH F cs) k v
  | _, _, .non => .non
  | _, _, .bl b => .bl b
  | _, _, .int i => .int i
  | _, _, .str x => .str x
  | _, _, .tup h r => .tup (unc_t hc h) (NkA.unc hc r)
theorem NkA.unc (hc : ∀ c o, cs.lookup c = some o → F c = some (.frz o Unk)) : ∀ {k : List NestedKey} {v : List V}, NkA K F k v → NkA K (uncH F cs) k v
  | _, _, .nil => .nil
  | _, _, .cons h r => .cons (NkV.unc hc h) (NkA.unc hc r)
end
variable [Tbl]
mutual
theorem Rep.unc (hc : ∀ c o, cs.lookup c = some o → F c = some (.frz o Unk)) : ∀ {v : V} {d : D}, Rep K F v d → nf d = true → Rep K (uncH F cs) v d
  | _, _, .non, _ => .non
  | _, _, .bl b, _ => .bl b
  | _, _, .int i, _ => .int i
  | _, _, .str x, _ => .str x
  | _, _, .ty n, _ => .ty n
  | _, _, .tup h r, n => .tup (unc_t hc h) (RepA.unc hc r n)
  | _, _, .lst h r, n => .lst (unc_ne hc h fun o z => by cases z) (RepA.unc hc r n)
  | _, _, .ins h r, n => .ins (unc_ne hc h fun o z => by cases z) (RepF.unc hc r n)
  | _, _, .obj a, _ => .obj a
  | _, _, .scr h, _ => .scr (unc_l hc h)
  | _, _, .bag h, _ => .bag (unc_ne hc h fun o => frz_ext)
  | _, _, .dct h r, n => .dct (unc_ne hc h fun o z => by cases z) (RepF.unc hc r n)
  | _, _, .tux h z r, n => .tux (unc_ne hc h fun o z => by cases z) z (RepA.unc hc r n)
  | _, _, .exc (d := d) h z r, n => .exc (unc_ne hc h fun o => frz_ext) (by
      cases d with
      | none => exact z
      | some dx => exact unc_ne hc z fun o => frz_ext) (RepF.unc hc r n)
  | _, _, .fnv (n := n) h g z r, q => by
    have q := Bool.and_eq_true_iff.mp q
    have e : n.fr = [] := List.isEmpty_iff.mp q.1
    exact .fnv (unc_ne hc h fun o => frz_ext) (unc_ne hc g fun o => frz_ext) ⟨z.len, z.all, z.inj, fun i y hi => by rw [e] at hi; simp at hi⟩ (RepA.unc hc r q.2)
  | _, _, .dci h r, n => .dci (unc_ne hc h fun o z => by cases z) (RepA.unc hc r (nfI_A n))
  | _, _, .lmv h g, _ => .lmv (unc_ne hc h fun o => frz_ext) (unc_ne hc g fun o => frz_ext)
  | _, _, .dcn h z g r, n => .dcn (unc_ne hc h fun o => frz_ext) z (fun p hp => ⟨(g p hp).1.unc hc, (g p hp).2⟩) (RepA.unc hc r (nfN_A n))
theorem RepA.unc (hc : ∀ c o, cs.lookup c = some o → F c = some (.frz o Unk)) : ∀ {v : List V} {d : List D}, RepA K F v d → nfA d = true → RepA K (uncH F cs) v d
  | _, _, .nil, _ => .nil
  | _, _, .cons h r, n => .cons (Rep.unc hc h (Bool.and_eq_true_iff.mp n).1) (RepA.unc hc r (Bool.and_eq_true_iff.mp n).2)
theorem RepF.unc (hc : ∀ c o, cs.lookup c = some o → F c = some (.frz o Unk)) : ∀ {v : List (Str × V)} {d : List (Str × D)}, RepF K F v d → nfF d = true → RepF K (uncH F cs) v d
  | _, _, .nil, _ => .nil
  | _, _, .cons h r, n => .cons (Rep.unc hc h (Bool.and_eq_true_iff.mp n).1) (RepF.unc hc r (Bool.and_eq_true_iff.mp n).2)
end
/-! ### steps -/
end
end DL
/-! DLF3: the readings: a def made, a call with functions of this frame, a call of a function that was handed on; an inner def's promise. -/
namespace DL
open PySem L2 PySem.Spec PyProof.Rows
section
variable [Tbl] {K : PySem.W.Frag} {E : XK} {B : Ent} {env : EV} {F H : Hp} {σ : L2.St}
/-! ### def f(..): .. within a def -/
/-! ### arguments with functions of this frame -/
/-- the value is that of the data; or a function of this frame -/
def ArgR (P : NS → List (Str × Addr) → Prop) (cap : NS → List Nat) (σ : L2.St) (K : PySem.W.Frag) (F : Hp) (x : V) (d : D) : Prop :=
  Rep K F x d ∨ ∃ n cl f c caps, d = .fnv n caps ∧ x = .ref f ∧ F f = some (NdefX.FnO f (n.nf cl c)) ∧ F c = some (LamX.CodeO c n.qual) ∧ P n cl ∧ ∃ ws : List V, (cap n).map (fun j => σ[j]?) = ws.map (fun v => some (some v)) ∧ RepA K F ws caps
theorem ArgR.mono {P : NS → List (Str × Addr) → Prop} {cap : NS → List Nat} {F' : Hp} {x : V} {d : D} (e : Same F F') (h : ArgR P cap σ K F x d) : ArgR P cap σ K F' x d := by
  rcases h with h | ⟨n, cl, f, c, caps, h1, h2, h3, h4, h5, ws, h6, h7⟩
  · exact .inl (h.mono e)
  · exact .inr ⟨n, cl, f, c, caps, h1, h2, e _ _ h3, e _ _ h4, h5, ws, h6, RepA.mono e h7⟩
abbrev WF := EV → ER → (List D → Prop) → Prop
/-! ### f(.., g): g a function of this frame -/
end
end DL
/-! DLF4: a call of a function that was handed on; an inner def's promise. -/
namespace DL
open PySem L2 PySem.Spec PyProof.Rows
/-! ### the cells of a function are forgotten for its call -/
section
variable {X : Cx} {pins : List (Addr × Obj)} {σ : L2.St} {H : Hp} {s : Shared} {cs : Cs}
end
/-- the functions that may be handed on, what they do -/
abbrev FNs := List (NS × (List D → FS))
section
variable [Tbl]
def spN (K : PySem.W.Frag) (S : List D → FS) (ws : List (Option V)) : Sp := fun vs H Q E => ∃ (F : Hp) (us : List V) (caps ds : List D) (q : D → Prop), ws = us.map some ∧ Fz F H ∧ RepA K F us caps ∧ RepA K F vs ds ∧ S caps ds (fun _ => False) q ∧ VL K F H Q q
/-! ### an inner def's promise -/
end
end DL
/-! DLH: dicts whose keys are nested tuples: asked, written. -/
namespace DL
open PySem L2 PySem.Spec PyProof.Rows
/-! ### pairs by key -/
section
variable {κ α β : Type} [DecidableEq κ]
end
/-! ### the dict, raw -/
section
variable {X : Cx} {pins : List (Addr × Obj)} {σ : L2.St} {H : Hp} {s : Shared} {a b : Addr} {ks : List (NestedKey × Addr)} {xs : List V} {k : NestedKey} {E : Value → Shared → Prop}
mutual
theorem nk_is (I : Inv X pins σ H s) : ∀ {k : NestedKey} {v : V} {u : Value}, NkV X.K H k v → RelV v u → NestedIs s.heap k u
  | _, _, _, .non, r => by
    cases r
    exact .none
  | _, _, _, .bl b, r => by
    cases r
    exact .bool rfl
  | _, _, _, .int i, r => by
    obtain ⟨t, rfl⟩ := r
    exact .int i t
  | _, _, _, .str x, r => by
    obtain ⟨t, rfl⟩ := r
    exact .text x t
  | _, _, _, .tup h g, r => by
    cases r
    obtain ⟨its, rv, ⟨o, ho, hc, n, hd⟩, _⟩ := I.tuple h
    exact .tup ho hc hd (by simpa using nka_is I g rv)
theorem nka_is (I : Inv X pins σ H s) : ∀ {ks : List NestedKey} {vs : List V} {us : List Value}, NkA X.K H ks vs → Vals vs us → NestedAll s.heap ks us
  | _, _, _, .nil, .nil => .nil
  | _, _, _, .cons h g, .cons r t => .cons (nk_is I h r) (nka_is I g t)
end
end
end DL
/-! DLH2: rules and readings for dicts whose keys are nested tuples. -/
namespace DL
open PySem L2 PySem.Spec PyProof.Rows
/-! ### raw -/
section
variable {X : Cx} {pins : List (Addr × Obj)} {σ : L2.St} {H : Hp} {s : Shared} {a b : Addr} {ks : List (NestedKey × Addr)} {xs : List V} {k : NestedKey} {v : V} {r : Value} {E : Value → Shared → Prop}
end
/-! ### rules -/
section
variable {X : Cx} {o i e value : Expr} {pos pos' tpos : Pos} {td ty tv : TE} {w : World}
end
end DL
/-! DLH3: readings for dicts whose keys are nested tuples. -/
namespace DL
open PySem L2 PySem.Spec PyProof.Rows
mutual
def nkD : D → Option NestedKey
  | .non => some .none
  | .bl b => some (.num (if b = true then 1 else 0))
  | .int i => some (.num i)
  | .str x => some (.text x)
  | .tup l => match nkDs l with
    | some ks => some (.tup ks)
    | none => none
  | _ => none
def nkDs : List D → Option (List NestedKey)
  | [] => some []
  | d :: r => match nkD d, nkDs r with
    | some k, some ks => some (k :: ks)
    | _, _ => none
end
section
variable [Tbl] {K : PySem.W.Frag} {F : Hp}
mutual
theorem rep_nk : ∀ {d : D} {x : V} {k : NestedKey}, Rep K F x d → nkD d = some k → NkV K F k x
  | .non, _, _, .non, e => by
    unfold nkD at e
    cases e
    exact .non
  | .bl b, _, _, .bl _, e => by
    unfold nkD at e
    cases e
    exact .bl b
  | .int i, _, _, .int _, e => by
    unfold nkD at e
    cases e
    exact .int i
  | .str x, _, _, .str _, e => by
    unfold nkD at e
    cases e
    exact .str x
  | .tup l, _, k, .tup h r, e => by
    unfold nkD at e
    split at e
    · rename_i ks e2
      cases e
      exact .tup h (rep_nks r e2)
    · cases e
  | .lst _, _, _, _, e => by unfold nkD at e; cases e
  | .ins _ _, _, _, _, e => by unfold nkD at e; cases e
  | .obj _, _, _, _, e => by unfold nkD at e; cases e
  | .ty _, _, _, _, e => by unfold nkD at e; cases e
  | .scr _, _, _, _, e => by unfold nkD at e; cases e
  | .bag _, _, _, _, e => by unfold nkD at e; cases e
  | .dct _, _, _, _, e => by unfold nkD at e; cases e
  | .tux _, _, _, _, e => by unfold nkD at e; cases e
  | .exc _ _, _, _, _, e => by unfold nkD at e; cases e
  | .fnv _ _, _, _, _, e => by unfold nkD at e; cases e
  | .dci _, _, _, _, e => by unfold nkD at e; cases e
  | .dcn _, _, _, _, e => by unfold nkD at e; cases e
  | .lmv _, _, _, _, e => by unfold nkD at e; cases e
theorem rep_nks : ∀ {l : List D} {xs : List V} {ks : List NestedKey}, RepA K F xs l → nkDs l = some ks → NkA K F ks xs
  | [], _, _, .nil, e => by
    unfold nkDs at e
    cases e
    exact .nil
  | d :: l, _, ks, .cons h r, e => by
    unfold nkDs at e
    split at e
    · rename_i k ks' e1 e2
      cases e
      exact .cons (rep_nk h e1) (rep_nks r e2)
    · cases e
end
end
section
variable [Tbl] {K : PySem.W.Frag} {E : XK} {te ta tb td : TE} {we wa wb : WE} {i : Nat}
/-! ### looked at -/
abbrev WDN := EV → ER → (List (NestedKey × D) → Prop) → Prop
end
end DL
/-! DLH4: {k: v for ..} whose keys are tuples. -/
namespace DL
open PySem L2 PySem.Spec PyProof.Rows
section
variable {X : Cx}
end
end DL
/-! DLH5: readings for {k: v for ..} with nested keys; dicts with ints as keys; enumerate of a list. -/
namespace DL
open PySem L2 PySem.Spec PyProof.Rows
section
variable [Tbl] {K : PySem.W.Frag} {E : XK} {te ta tb td : TE} {we wa wb : WE} {tt : TT} {wt : WT} {i : Nat}
/-! ### {k: v for ..}, the keys tuples -/
end
/-! ### ints as keys -/
section
variable {κ α β : Type} [DecidableEq κ]
end
section
variable [Tbl] {K : PySem.W.Frag} {F : Hp}
end
section
variable [Tbl] {K : PySem.W.Frag} {E : XK} {te ta tb td : TE} {we wa wb : WE} {tt : TT} {wt : WT} {i : Nat}
abbrev WDI := EV → ER → (List (Int × D) → Prop) → Prop
/-! ### enumerate of a list -/
end
end DL
/-! DLTB: len(set([truths])). -/
namespace DL
open PySem PySem.Spec PyProof.Rows
variable [Tbl]
section
variable {prog : Program} {w : World} {A : Around} {R : Result → Shared → Prop} {I : Addr} {fp wr : List Addr} {G : Array GenState → Array GenState → Prop} {n : Nat} {P : Nat → Value → Prop} {St : Nat → Shared → Prop}
end
end DL
namespace DL
open PySem PySem.Spec PyProof.Rows
variable [Tbl]
section
variable {prog : Program} {w : World} {A : Around} {E : Value → Shared → Prop} {s : Shared}
end
end DL
namespace DL
open PySem PySem.Spec PyProof.Rows L2
variable [Tbl]
/-! len(set(list of texts)) -/
section
variable {X : Cx}
end
section
variable {K : PySem.W.Frag} {E : XK} {te : TE} {wo : WO}
end
end DL
/-! DLF5: inner defs: how their captured names lie; max of a list, text * int. -/
namespace DL
open PySem L2 PySem.Spec PyProof.Rows
/-! ### max of a list -/
section
variable [Tbl] {K : PySem.W.Frag}
def lMax (l : List D) (q : D → Prop) : Prop := ∃ ns, intsOf l = some ns ∧ 0 < ns.length ∧ ∀ m, m ∈ ns → (∀ y, y ∈ ns → y ≤ m) → q (.int m)
end
/-! ### text * int -/
section
variable [Tbl] {K : PySem.W.Frag}
end
end DL
/-! DLQ: the law's draw from a purse. -/
namespace DL
open PySem L2
variable [Tbl]
section
variable {K : PySem.W.Frag} {E : XK} {X : Cx}
end
end DL
/-! DLF6: a def with inner defs. -/
namespace DL
open PySem L2 PySem.Spec PyProof.Rows
section
variable [Tbl] {P : Program} {w : World} {K : PySem.W.Frag} {mg : Str → Option Value} {base : Heap}
end
end DL
/-! DLL: lambdas without free names as values: made, handed on, called. -/
namespace DL
open PySem L2 PySem.Spec PyProof.Rows
abbrev LS.nf (L : LS) (c : Addr) : NdefX.NF := ⟨"<lambda>", L.qual, L.ps, [], L.sc, [], c⟩
/-! ### its promise -/
structure LOk (P : Program) (w : World) (K : PySem.W.Frag) (mg : Str → Option Value) (base : Heap) (CX : CXT) (k : Nat) (L : LS) (ps : List Str) (sp : Sp) : Prop where
  len : ∀ vs H Q E, sp vs H Q E → vs.length = ps.length
  run : ∀ (A : Around) (outer : List Env) (s : Shared) (H : Hp) (us : List Value) (vs : List V) (Q : VK) (E : XK) (f c : Addr), Room k A → Env0 P w K mg base A outer s H → H f = some (LamO f L c) → H c = some (LamX.CodeO c L.qual) → Vals vs us → sp vs H Q E →
    codeAny (model P w) A (.call (.ref f) ⟨us, []⟩) (CR CX outer P w H s Q E) s
section
variable {CX : CXT} {P : Program} {w : World} {K : PySem.W.Frag} {mg : Str → Option Value} {base : Heap} {N ps : List Str} {L : LS} {k j : Nat} {sp : Sp}
theorem LOk.mono (o : LOk P w K mg base CX j L ps sp) (h : j ≤ k) : LOk P w K mg base CX k L ps sp := ⟨o.len, fun A outer s H us vs Q E f c hr => o.run A outer s H us vs Q E f c (hr.mono h)⟩
end
section
variable [Tbl]
abbrev spL (K : PySem.W.Frag) (S : FS) : Sp := spN K (fun _ => S) []
/-! ### f(..), f a name that holds a lambda -/
abbrev LFs := List (LS × FS)
/-! ### a lambda is made -/
section
variable {X : Cx} {pins : List (Addr × Obj)} {σ : L2.St} {H : Hp} {s : Shared}
end
end
end DL
/-! DLZ: zip of a text and a tuple, of two lists. -/
namespace DL
open PySem L2 PySem.Spec PyProof.Rows
/-! ### readings -/
section
variable [Tbl] {K : PySem.W.Frag} {E : XK} {tA : TA} {wa : WA}
end
end DL
/-! DLZ3: zip of a list, a tuple and a list. -/
namespace DL
open PySem L2 PySem.Spec PyProof.Rows
/-! ### readings -/
section
variable [Tbl] {K : PySem.W.Frag} {E : XK} {tA : TA} {wa : WA}
end
/-! ### zip of a tuple and a list -/
section
variable [Tbl] {K : PySem.W.Frag} {E : XK} {tA : TA} {wa : WA}
/-! ### one way or the other -/
end
end DL
/-! DLMO: an object that is made, then written at, then handed out. -/
namespace DL
open PySem L2 PySem.Spec PyProof.Rows
section
variable [Tbl] {K : PySem.W.Frag} {E : XK}
/-! ### the lambda of a def whose last statement returns a call that ends with it -/
/-! ### text.index(letter) -/
def wSIdx (wa wb : WE) : WE := fun env er q => wa env er fun x => match x with
  | .str a => wb env er fun y => match y with
    | .str b => ∃ c : Nat, b = ⟨#[c]⟩ ∧ (∃ i : Nat, a.cps[i]? = some c) ∧ ∀ i : Nat, a.cps[i]? = some c → (∀ k, k < i → a.cps[k]? ≠ some c) → q (.int i)
    | _ => False
  | _ => False
end
/-! ### an own dict with nested keys is frozen -/
section
variable [Tbl] {K : PySem.W.Frag} {E : XK}
end
end DL
/-! DLTR: tuple(range(n)). -/
namespace DL
open PySem L2 PyProof.Rows
variable [Tbl]
variable {K : PySem.W.Frag} {E : XK} {ta : TE} {wa : WE}
end DL
/-! DLEB: own exception classes over ValueError, LookupError, ArithmeticError: their fields written, made as values, raised. -/
namespace DL
open PySem L2 PySem.Spec PyProof.Rows
/-- own classes, then those of Python -/
def refsT (tl : List Value) : List Value → Bool
  | [] => false
  | v :: r => (v :: r == tl) || match v with
    | .ref _ => refsT tl r
    | _ => false
theorem refsT_cases {tl : List Value} : ∀ {l : List Value}, refsT tl l = true → l = tl ∨ ∃ c r, l = .ref c :: r ∧ refsT tl r = true
  | [], z => by cases z
  | v :: r, z => by
    unfold refsT at z
    rcases Bool.or_eq_true_iff.mp z with y | y
    · exact .inl (beq_iff_eq.mp y)
    · cases v with
      | ref c => exact .inr ⟨c, r, rfl, y⟩
      | _ => cases y
theorem refsT_has {tl : List Value} (X : String) : ∀ {l : List Value}, refsT tl l = true → l.contains (.type X) = tl.contains (.type X)
  | [], z => by cases z
  | v :: r, z => by
    rcases refsT_cases z with y | ⟨c, r', y, z2⟩
    · rw [y]
    · injection y with y1 y2
      subst y1 y2
      rw [List.contains_cons, refsT_has X z2]
      rfl
theorem refsT_pass {tl : List Value} (self : Value) (h : refuseLoop self "__setattr__" tl = pure ()) : ∀ {l : List Value}, refsT tl l = true → refuseLoop self "__setattr__" l = pure ()
  | [], z => by cases z
  | v :: r, z => by
    rcases refsT_cases z with y | ⟨c, r', y, z2⟩
    · rw [y, h]
    · injection y with y1 y2
      subst y1 y2
      rw [refuseLoop_ref]
      exact refsT_pass self h z2
theorem refsT_ne {tl : List Value} {l : List Value} (z : refsT tl l = true) : l.isEmpty = false := by
  cases l with
  | nil => cases z
  | cons _ _ => rfl
/-- what is known of a base -/
structure ErB (newId : String) (tl : List Value) : Prop where
  ex : ∃ B initId, ExcBaseFacts B newId initId tl
  pass : ∀ self, refuseLoop self "__setattr__" tl = pure ()
  ob : tl.contains (.type "object") = true
theorem erb_VE : ErB "ValueError.__new__" [.type "ValueError", .type "Exception", .type "BaseException", .type "object"] := ⟨⟨_, _, F.excBase_ValueError⟩, F.store_ValueError.passes, by decide +kernel⟩
theorem erb_LE : ErB "LookupError.__new__" [.type "LookupError", .type "Exception", .type "BaseException", .type "object"] := ⟨⟨_, _, F.excBase_LookupError⟩, F.store_LookupError.passes, by decide +kernel⟩
theorem erb_AE : ErB "ArithmeticError.__new__" [.type "ArithmeticError", .type "Exception", .type "BaseException", .type "object"] := ⟨⟨_, _, F.excBase_ArithmeticError⟩, F.store_ArithmeticError.passes, by decide +kernel⟩

section
open PySem.W PySem.Calls Builtin Builtin.ObjectAttr PySem.OEX PySem.HandSPX
variable {pr : Program} {ww : World} {Ar : Around} {hp : Heap} {gg : Array GenState} {dr : Drawn} {tt : Nat} {oss : OsState} {RR : Result → Shared → Prop}
/-- x.name = v: x an exception of the class at C, od its dict -/
theorem osaB {K : PySem.W.Frag} {name : Str} {tk : Tok} {v : Value} {x C : Addr} {ox : Obj} {od : Option Obj} {cd : ClassData} {tl : List Value} (Y : K.In hp) (J : InstAt hp x ox C od) (hcd : clsIn K C = some cd) (hm : refsT tl cd.mro = true) (hob : tl.contains (.type "object") = true)
    (hps : ∀ self, refuseLoop self "__setattr__" tl = pure ()) (hno : findIn K (.ref C) name = some none) (fin : wpAny (model pr ww) Ar.in1 (storeInOwnDict (.ref x) (.ref C) (.str name tk) name v false) (fun f s' => match f with
      | .done f => RR (.ok f) s'
      | .again c' => c'.quiet = true ∧ codeAny (model pr ww) Ar c' RR s') (fun e s' => RR (.error e) s') ⟨hp, gg, dr, tt, oss⟩) :
    codeAny (model pr ww) Ar (.call (.builtin "object.__setattr__") ⟨[.ref x, .str name tk, v], []⟩) RR ⟨hp, gg, dr, tt, oss⟩ := by
  have SO := F.store_object
  have nem := refsT_ne hm
  have hin : cd.mro.contains (.type "object") = true := (refsT_has "object" hm).trans hob
  have lk0 : Looks (model pr ww) hp (isInstance (.ref x) (.type "object")) true := by
    refine J.type.andThen (looks_mroIn Y ?_)
    unfold mroIn
    rw [hcd, Option.bind_some, if_neg (by rw [nem]; decide), hin]
  refine codeAny_call_builtin SO.slot.plain SO.entry ?_
  refine @check_slot (model pr ww) _ _ ⟨hp, gg, dr, tt, oss⟩ "object.__setattr__" "object" "__setattr__" (.ref x) [.str name tk, v] [] _ SO.kind SO.split lk0 (SO.args (.ref x) (.str name tk) v) ?_
  have lkm : Looks (model pr ww) hp (mroOf (.ref C)) cd.mro := (looks_clsIn Y hcd).andThen .now
  have lkt : Looks (model pr ww) hp (storeTaker? none) none := .now
  rw [osa_eq, refuse_eq]; refine wpAny_bind (wpAny_bind (J.type.at (wpAny_bind (lkm.at ?_)))); rw [refsT_pass _ (hps _) hm]
  refine wpAny_pure (wpAny_bind (J.type.at (wpAny_bind ((looks_findIn Y hno).at (wpAny_bind (lkt.at ?_))))))
  exact fin
/-- .. its first field -/
theorem osaB_new {K : PySem.W.Frag} {name : Str} {tk : Tok} {v : Value} {x C : Addr} {fv : Array Value} {cd : ClassData} {tl : List Value} (Y : K.In hp) (ho : hp.get? x = some { cls := .ref C, data := .fields fv }) (hcd : clsIn K C = some cd) (hm : refsT tl cd.mro = true) (hob : tl.contains (.type "object") = true)
    (hps : ∀ self, refuseLoop self "__setattr__" tl = pure ()) (hh : cd.hasDict = true) (hno : findIn K (.ref C) name = some none)
    (fin : ∀ h2 t2 dx, (∀ b o, b ≠ x → hp.get? b = some o → h2.get? b = some o) → hp.objs.size ≤ dx → dx ≠ x → h2.get? x = some { cls := .ref C, dict := some dx, data := .fields fv } → h2.Ns1 dx (fun y => if y = name then some v else none) → RR (.ok (.ret .none)) ⟨h2, gg, dr, t2, oss⟩) :
    codeAny (model pr ww) Ar (.call (.builtin "object.__setattr__") ⟨[.ref x, .str name tk, v], []⟩) RR ⟨hp, gg, dr, tt, oss⟩ := by
  refine osaB (od := none) Y ⟨ho, rfl, rfl, trivial⟩ hcd hm hob hps hno ?_
  have lkc : Looks (model pr ww) hp (classData C) cd := looks_clsIn Y hcd
  have xne : x ≠ hp.objs.size := Nat.ne_of_lt (Heap.lt_size ho)
  obtain ⟨n1, n2, n3, n4, n5, n6, n7, n8, n9, n10, n11⟩ := cd
  have hh : n6 = true := hh
  subst hh
  unfold storeInOwnDict ownDictForStores
  repeat (first | with_reducible refine store_in_new ?_ ?_ | with_reducible refine wpAny_loadPart_at ho ?_ | with_reducible refine lkc.at ?_ | wp_step)
  · refine ⟨_, #[], _, (Heap.get?_update_ne _ _ _ _ xne.symm).trans (Heap.get?_push_at rfl rfl), rfl, fun e he => absurd he (by simp), fun _ => rfl⟩
  · intro h2 t2 hn2 hs2
    have ho2 : (hp.push { cls := .type "dict", data := .dict #[] }).get? x = some { cls := .ref C, data := .fields fv } := Heap.get?_push_of_some _ ho
    refine fin h2 t2 hp.objs.size (fun b o hb hbo => ?_) (Nat.le_refl _) xne.symm ((hs2.2 x xne).trans (Heap.get?_update_self _ ho2 rfl)) hn2
    exact (hs2.2 b (Nat.ne_of_lt (Heap.lt_size hbo))).trans ((Heap.get?_update_ne _ _ _ _ hb).trans (Heap.get?_push_of_some _ hbo))
/-- .. a further one -/
theorem osaB_old {K : PySem.W.Frag} {name : Str} {tk : Tok} {v : Value} {x C dx : Addr} {fv : Array Value} {cd : ClassData} {tl : List Value} {m0 : Str → Option Value} {nl : List Str} (Y : K.In hp) (ho : hp.get? x = some { cls := .ref C, dict := some dx, data := .fields fv }) (hns : hp.Ns1 dx m0) (hw : Within m0 nl) (hz : nl.length ≤ 1000)
    (hcd : clsIn K C = some cd) (hm : refsT tl cd.mro = true) (hob : tl.contains (.type "object") = true) (hps : ∀ self, refuseLoop self "__setattr__" tl = pure ()) (hh : cd.hasDict = true) (hno : findIn K (.ref C) name = some none)
    (fin : ∀ h2 t2, (∀ b o, b ≠ dx → hp.get? b = some o → h2.get? b = some o) → h2.Ns1 dx (fun y => if y = name then some v else m0 y) → RR (.ok (.ret .none)) ⟨h2, gg, dr, t2, oss⟩) :
    codeAny (model pr ww) Ar (.call (.builtin "object.__setattr__") ⟨[.ref x, .str name tk, v], []⟩) RR ⟨hp, gg, dr, tt, oss⟩ := by
  obtain ⟨oD, _, _, hoD, _, _⟩ := hns.count hw
  refine osaB (od := some oD) Y ⟨ho, rfl, rfl, hoD⟩ hcd hm hob hps hno ?_
  have lkc : Looks (model pr ww) hp (classData C) cd := looks_clsIn Y hcd
  obtain ⟨n1, n2, n3, n4, n5, n6, n7, n8, n9, n10, n11⟩ := cd
  have hh : n6 = true := hh
  subst hh
  unfold storeInOwnDict ownDictForStores
  repeat (first | with_reducible refine store_in_old hns hw hz ?_ | with_reducible refine wpAny_loadPart_at ho ?_ | with_reducible refine lkc.at ?_ | wp_step)
  intro h2 t2 hn2 hs2
  exact fin h2 t2 (fun b o hb hbo => (hs2.2 b hb).trans hbo) hn2
end
/-- what is known of an own class of errors -/
structure OexB (K : PySem.W.Frag) (C : Addr) : Prop where
  cls : ∃ nm q N bs bm sn sub ab col dd k0 k1 k2 k3 k5 newId tl, K.lookup C = some (excClassObj nm q C N bs bm true sn sub ab col dd k0 k1 k2 k3 k5 newId) ∧ refsT tl bm = true ∧ ErB newId tl
  sa : PySem.W.findIn K (.ref C) "__setattr__" = some (some (.builtin "object.__setattr__"))
  exC : PySem.W.subIn K (.ref C) (.type "BaseException") = some true
  tyC : PySem.W.typeIn K (.ref C) = some (.type "type")
  kC : PySem.W.keepIn K (.ref C) = true
section
variable {X : Cx} {pins : List (Addr × Obj)} {σ : L2.St} {H : Hp} {s : Shared} {a C dx : Addr} {f : Str} {y : V} {u : Value} {fs : List (Str × V)} {Ar : Around} {E : Value → Shared → Prop} {Q : Unit → Shared → Prop}
theorem refsT_cons {tl bm : List Value} {C : Addr} (h : refsT tl bm = true) : refsT tl (.ref C :: bm) = true := by
  unfold refsT
  rw [h, Bool.or_true]
/-- self.f = y, the first one -/
theorem ostB_new (T : OexB X.K C) (I : Inv X pins σ H s) (ea : H a = some (exo a C none)) (hno : PySem.W.findIn X.K (.ref C) f = some none) (ry : RelV y u)
    (fin : ∀ dx s', H dx = none → dx ≠ a → Inv X pins σ (upd (upd H dx (exd dx [(f, y)])) a (exo a C (some dx))) s' → Q () s') : wpAny (model X.prog X.w) Ar (setAttr (.ref a) f u) Q E s := by
  obtain ⟨nm, q, N, bs, bm, sn, sub, ab, col, dd, k0, k1, k2, k3, k5, newId, tl, hC, hbm, ⟨_, hps, hob⟩⟩ := T.cls
  have hcl : ∃ cd, PySem.W.clsIn X.K C = some cd ∧ cd.mro = .ref C :: bm ∧ cd.hasDict = true := ⟨_, by unfold PySem.W.clsIn; rw [hC] <;> rfl, rfl, rfl⟩
  obtain ⟨cd, hcd, hmro, hhd⟩ := hcl
  obtain ⟨t1, ho⟩ := exo_at I.hok ea
  obtain ⟨hp, gg, dr, tt, oss⟩ := s
  refine PySem.W.set_plain I.kIn (od := none) ⟨ho, rfl, rfl, trivial⟩ T.sa ?_
  refine osaB_new I.kIn ho hcd (by rw [hmro]; exact refsT_cons hbm) hob hps hhd hno fun h2 t2 dx kp dn dne hx hn => ?_
  have hnd : H dx = none := I.hok.fresh dn
  have ned : ∀ {b : Addr} {o : Obj}, hp.get? b = some o → b ≠ dx := fun {b o} z => Nat.ne_of_lt (Nat.lt_of_lt_of_le (Heap.lt_size z) dn)
  have nea : ∀ {b : Addr}, H b = none → b ≠ a := fun {b} n z => by
    rw [z, ea] at n
    cases n
  have U : Un X.fs [] H (upd (upd H dx (exd dx [(f, y)])) a (exo a C (some dx))) hp h2 := by
    refine ⟨fun b o z n _ _ => kp b o (nea n) z, fun b o z n _ _ => ⟨o.slots, kp b o (nea n) z⟩, fun b o z n _ => by rw [upd_ne (nea n), upd_ne (ned z)]; exact n, fun b o z _ => ?_, fun b xs z => ?_, fun b o v z => ?_, fun b ps z => ?_⟩
    · by_cases hb : b = a
      · exact ⟨_, by rw [hb]; exact hx⟩
      · exact ⟨o, kp b o hb z⟩
    · rw [upd_ne (at_ne ea z exo_tup), upd_ne (ne_of_none z hnd)]
      exact z
    · rw [upd_ne (at_ne ea z exo_frz), upd_ne (ne_of_none z hnd)]
      exact z
    · refine ⟨#[], ?_⟩
      rw [upd_ne (at_ne ea z exo_tbl), upd_ne (ne_of_none z hnd), z]
      simp
  refine fin dx _ hnd dne (I.un (t' := t2) U fun b o z => ?_)
  by_cases hb : b = a
  · subst hb
    rw [upd_same] at z
    cases z
    exact exo_ok hx
  · rw [upd_ne hb] at z
    by_cases hd : b = dx
    · subst hd
      rw [upd_same] at z
      cases z
      exact exd_ok hn (relO_put (fs := []) ry fun _ => True.intro)
    · rw [upd_ne hd] at z
      refine (I.hok b o z).stay (fun c v hc w => kp c v ?_ w) (fun c hc => ?_) fun c xs hc => ?_
      · rcases hc with hc | hc
        · rw [hc]
          exact hb
        · exact at_ne ea hc exo_own
      · rw [upd_ne (at_ne ea hc exo_own), upd_ne (ne_of_none hc hnd)]
        exact hc
      · rw [upd_ne (at_ne ea hc exo_tup), upd_ne (ne_of_none hc hnd)]
        exact hc
/-- .. a further one -/
theorem ostB_old (T : OexB X.K C) (I : Inv X pins σ H s) (ea : H a = some (exo a C (some dx))) (ed : H dx = some (exd dx fs)) (hl : fs.length ≤ 900) (hno : PySem.W.findIn X.K (.ref C) f = some none) (ry : RelV y u)
    (fin : ∀ s', Inv X pins σ (upd H dx (exd dx ((f, y) :: fs))) s' → Q () s') : wpAny (model X.prog X.w) Ar (setAttr (.ref a) f u) Q E s := by
  obtain ⟨nm, q, N, bs, bm, sn, sub, ab, col, dd, k0, k1, k2, k3, k5, newId, tl, hC, hbm, ⟨_, hps, hob⟩⟩ := T.cls
  have hcl : ∃ cd, PySem.W.clsIn X.K C = some cd ∧ cd.mro = .ref C :: bm ∧ cd.hasDict = true := ⟨_, by unfold PySem.W.clsIn; rw [hC] <;> rfl, rfl, rfl⟩
  obtain ⟨cd, hcd, hmro, hhd⟩ := hcl
  obtain ⟨t1, ho⟩ := exo_at I.hok ea
  obtain ⟨mA, hns, rel⟩ := exd_at I.hok ed
  have hw := within_of rel
  obtain ⟨hp, gg, dr, tt, oss⟩ := s
  obtain ⟨oD, _, _, hoD, _, _⟩ := hns.count hw
  refine PySem.W.set_plain I.kIn (od := some oD) ⟨ho, rfl, rfl, hoD⟩ T.sa ?_
  refine osaB_old I.kIn ho hns hw (by rw [List.length_map]; omega) hcd (by rw [hmro]; exact refsT_cons hbm) hob hps hhd hno fun h2 t2 kp hn => ?_
  have hd : ∃ o, h2.get? dx = some o := by
    obtain ⟨o, _, _, z, _⟩ := hn
    exact ⟨o, z⟩
  exact fin _ (I.write (t' := t2) (x := dx) (e := dx) (o := exd dx ((f, y) :: fs)) (by rw [ed]; exact True.intro) (.inl rfl) kp hd (exd_ok hn (relO_put ry rel)))
end
end DL
/-! DLEB3: rules for own exception classes: self.f = e; C(e, ..) as a value. -/
namespace DL
open PySem L2 PySem.Spec PyProof.Rows
def tOstB (K : PySem.W.Frag) (f : Str) (to te : TE) : TS := fun D σ H => te σ H fun y H1 => to σ H1 fun x H2 => ∃ a C : Addr, x = .ref a ∧ OexB K C ∧ PySem.W.findIn K (.ref C) f = some none ∧
  ((H2 a = some (exo a C none) ∧ ∀ dx, H2 dx = none → dx ≠ a → D.nx σ (upd (upd H2 dx (exd dx [(f, y)])) a (exo a C (some dx)))) ∨
    ∃ (dx : Addr) (fs : List (Str × V)), H2 a = some (exo a C (some dx)) ∧ H2 dx = some (exd dx fs) ∧ fs.length ≤ 900 ∧ D.nx σ (upd H2 dx (exd dx ((f, y) :: fs))))
/-- C(e, ..) as a value -/
def tMkV (C : Addr) (sp : Sp) (dvs : List V) (ta : TA) : TE := fun σ H Q => ta σ H fun vs H1 => vs.length ≤ 1000 ∧ ∀ a, H1 a = none → sp (.ref a :: (vs ++ dvs)) (upd H1 a (exo a C none)) (fun v H2 => v = .non ∧ Q (.ref a) H2) fun _ _ _ => False
section
variable {X : Cx} {o e : Expr} {es : List Expr} {to te : TE} {ta : TA} {f : Str} {p p' pos : Pos}
theorem ps_ostB (ho : PE X o to) (he : PE X e te) (hs : swapsWith e (some (.Attribute o f p')) pos.line X.env = pure false := by rfl) : PS X (.Assign [.Attribute o f p'] e pos) (tOstB X.K f to te) := ⟨fun pins s σ H Dn I h => by
  refine plainObj_wpAny_Assign_Attribute (thn (he.run pins s σ H _ I h) fun v t1 ⟨y, H1, J1, ry, h1⟩ => thn (ho.run pins t1 σ H1 _ J1 h1) fun w t2 ⟨z, H2, J2, rz, a, C, ez, T, hno, h2⟩ => ?_) hs
  subst ez
  cases rz
  rcases h2 with ⟨ea, h3⟩ | ⟨dx, fs, ea, ed, hl, h3⟩
  · exact ostB_new T J2 ea hno ry fun dx t3 n ne J => ⟨σ, _, J, h3 dx n ne⟩
  · exact ostB_old T J2 ea ed hl hno ry fun t3 J => ⟨σ, _, J, h3⟩⟩
theorem pe_mkv {CX : CXT} {x : Str} {C fI : Addr} {k : Nat} {fd : FuncData} {ps : List Str} {sp : Sp} {ds : List Value} {dvs : List V} (T : OexB X.K C) (iC : PySem.W.findIn X.K (.ref C) "__init__" = some (some (.ref fI))) (tI : PySem.W.typeIn X.K (.ref fI) = some (.type "function"))
    (F1 : FnOk X.prog X.w X.K X.mg X.base CX k fI fd ps sp) (hr : Room (k + 1) X.A) (hb : Binds X.K fd ps ds) (hd : Vals dvs ds) (hx : Passes CX X (fun _ _ _ => False)) (hg : Gl X x) (hm : X.mg x = some (.ref C)) (ha : PA X (e :: es) ta)
    (hdb : (x == ("__debug__" : Str)) = false := by decide) (he : starEach (e :: es) X.env = (false, eval e X.env) :: starEach es X.env := by rfl) (hpl : (backTo pos (starEach es X.env)).any (·.1) = false := by rfl) :
    PE X (.Call (.Name x p) (e :: es) [] pos) (tMkV C sp dvs ta) := ⟨fun pins s σ H Q I h => by
  obtain ⟨nm, q, N, bs, bm, sn, sub, ab, col, dd, k0, k1, k2, k3, k5, newId, tl, hC, hbm, ⟨⟨B, initId, XB⟩, _, _⟩⟩ := T.cls
  refine wpAny_Call_Name_kw (ld_glob I hg hm ?_ hdb)
  refine PySem.W.callWith_K (h₀ := X.base) I.ok.mod.kin T.kC (thn (ha.run pos pins s σ H _ I h) fun us s1 ⟨vs, H1, J1, r1, hz, h1⟩ => ⟨J1.kIn, ?_⟩) he hpl
  obtain ⟨hp, gg, dr, tk, os⟩ := s1
  have hn : H1 (hp.objs.size + 1) = none := J1.hok.fresh (Nat.le_succ _)
  have h2 := h1 (hp.objs.size + 1) hn
  have hget : ((hp.push (PySem.W.kdv_tup us)).push (PySem.HandSPX.excO C hp.objs.size)).get? (hp.objs.size + 1) = some (PySem.HandSPX.excO C hp.objs.size) := by heap_get
  have J2 : Inv X pins σ (upd H1 (hp.objs.size + 1) (exo (hp.objs.size + 1) C none)) ⟨(hp.push (PySem.W.kdv_tup us)).push (PySem.HandSPX.excO C hp.objs.size), gg, dr, tk, os⟩ :=
    J1.laid (t' := tk) (a := hp.objs.size + 1) (o := exo (hp.objs.size + 1) C none) (fun b o z => Heap.get?_push_of_some _ (Heap.get?_push_of_some _ z)) (Nat.le_succ _) (exo_ok hget)
  have rr : Vals (V.ref (hp.objs.size + 1) :: (vs ++ dvs)) (Value.ref (hp.objs.size + 1) :: (us ++ ds)) := .cons rfl (r1.append hd)
  have hlen : (Value.ref (hp.objs.size + 1) :: us ++ ds).length = ps.length := (rr.length.symm.trans (F1.len _ _ _ _ h2))
  have hus : us.length ≤ sizeLine := by
    have := r1.length
    rw [sizeLine_eq]
    omega
  refine wpAny_call (PySem.HandSPX.call_own XB (fun Y => refsT_has Y hbm) (J1.kIn _ _ hC) (PySem.W.looks_findIn J1.kIn iC) (fun self => PySem.W.bind_fn J1.kIn self tI) hus ?_)
  refine codeAny_mono (F1.run _ X.stack _ _ ⟨Value.ref (hp.objs.size + 1) :: us, []⟩ _ _ _ (fun _ _ _ => False) (hr.make C us []) (J2.env0.make C us []) (hb _ (Value.ref (hp.objs.size + 1) :: us) J2.kIn hlen) rr h2) fun r s' hq => ?_
  cases r with
  | error er => exact hx pins σ _ _ er s' J2 hq
  | ok fl =>
    cases fl with
    | ret u =>
      obtain ⟨v, H2, os2, bare2, un2, hok2, rv, ev, h3⟩ := hq
      subst ev
      exact ⟨rv, .ref (hp.objs.size + 1), H2, J2.call' (ch := []) os2 un2 hok2 bare2 (fun b z => absurd z (by simp)), rfl, h3⟩
    | next => exact hq.elim
    | brk => exact hq.elim
    | cont => exact hq.elim⟩
end
end DL
/-! DLEB4: own exception classes made by keywords. -/
namespace DL
open PySem L2 PySem.Spec PyProof.Rows
section
open PySem.W PySem.Calls Builtin PySem.HandSPX
variable {M : Model} {Ar : Around} {E : Value → Shared → Prop} {h : Heap} {gg : Array GenState} {dr : Drawn} {tt : Nat} {oss : OsState}
variable {nm q : Str} {C N : Addr} {bs bm bmB : List Value} {hdct : Bool} {sn : List Str} {sub : List Value} {ab : Bool} {col : Option Bool} {dd : Option Addr} {k0 k1 k2 k3 k5 : Option Value} {B newId initId : String}
theorem check_new_kw (XB : ExcBaseFacts B newId initId bmB) (hT : ∀ X : String, bm.contains (.type X) = bmB.contains (.type X)) {rest : List Value} {kw : List (Str × Value)} {Q : Unit → Shared → Prop}
    (hC : h.get? C = some (excClassObj nm q C N bs bm hdct sn sub ab col dd k0 k1 k2 k3 k5 newId)) (fin : Q () ⟨h, gg, dr, tt, oss⟩) : wpAny M Ar (checkBuiltinCall newId ⟨.ref C :: rest, kw⟩) Q E ⟨h, gg, dr, tt, oss⟩ := by
  have hin : (Value.ref C :: bm).contains (.type B) = true := by rw [List.contains_cons, hT, XB.hasB, Bool.or_true]
  have hstar := XB.noStar
  simp only [checkBuiltinCall, XB.newKind, XB.newSplit, XB.newRow]
  repeat (first | refine wpAny_loadPart_at hC ?_ | (refine wpAny_isSubtype_exc hC ?_; rw [hin]) | refine wpAny_staticBase_exc hC ?_ | refine wpAny_madeBy_exc hC ?_ | simp only [bne_self_eq_false, Bool.false_eq_true, if_false] | wp_step)
  exact fin
theorem check_call_kw {rest : List Value} {kw : List (Str × Value)} {Q : Unit → Shared → Prop} (hC : h.get? C = some (excClassObj nm q C N bs bm hdct sn sub ab col dd k0 k1 k2 k3 k5 newId)) (fin : Q () ⟨h, gg, dr, tt, oss⟩) :
    wpAny M Ar (checkBuiltinCall "type.__call__" ⟨.ref C :: rest, kw⟩) Q E ⟨h, gg, dr, tt, oss⟩ := by
  have b3 := tc_sub
  have hTy : (⟨h, gg, dr, tt, oss⟩ : Shared).TypeIs (.ref C) "type" := ⟨_, hC, rfl⟩
  simp only [checkBuiltinCall, tc_kind, tc_split]
  repeat (any_goals (first | assumption | with_reducible refine wpAny_loadPart_at hC ?_ | with_reducible refine wpAny_onRaise ?_ | with_reducible refine wpAny_map ?_ | wp_step))
end
section
open PySem.W PySem.Calls Builtin PySem.HandSPX
variable {pr : Program} {ww : World} {Ar : Around} {E : Value → Shared → Prop} {RR : Result → Shared → Prop} {h : Heap} {gg : Array GenState} {dr : Drawn} {tt : Nat} {oss : OsState}
variable {nm q : Str} {C N : Addr} {bs bm bmB : List Value} {hdct : Bool} {sn : List Str} {sub : List Value} {ab : Bool} {col : Option Bool} {dd : Option Addr} {k0 k1 k2 k3 k5 : Option Value} {B newId initId : String}
theorem new_kw (XB : ExcBaseFacts B newId initId bmB) (hT : ∀ X : String, bm.contains (.type X) = bmB.contains (.type X)) {rest : List Value} {kw : List (Str × Value)} (hC : h.get? C = some (excClassObj nm q C N bs bm hdct sn sub ab col dd k0 k1 k2 k3 k5 newId))
    (fin : RR (.ok (.ret (.ref (h.objs.size + 1)))) ⟨(h.push (kdv_tup rest)).push (excO C h.objs.size), gg, dr, tt, oss⟩) (hz : rest.length ≤ sizeLine) : codeAny (model pr ww) Ar (.builtin newId ⟨.ref C :: rest, kw⟩) RR ⟨h, gg, dr, tt, oss⟩ := by
  have hends := XB.ends
  have inB : (Value.ref C :: bm).contains (.type B) = true := by rw [List.contains_cons, hT, XB.hasB, Bool.or_true]
  have inA : (Value.ref C :: bm).contains (.type "AttributeError") = false := by rw [List.contains_cons, hT, XB.noAttr]; rfl
  have inN : (Value.ref C :: bm).contains (.type "NameError") = false := by rw [List.contains_cons, hT, XB.noName]; rfl
  refine codeAny_builtinAt XB.entry ?_; unfold Builtin.«BaseException.__new__»; refine PySem.wpAt_bind ?_
  show PySem.wpAt _ _ _ (stack >>= _) _ _ _; refine PySem.wpAt_bind (PySem.wpAt_stack fun p below => PySem.wpAt_of_wpAny ?_); wp_walk; refine PySem.wpAt_of_wpAny ?_; rw [XB.owner]
  repeat (first | with_reducible refine wpAny_madeHere_exc XB.canon hC ?_ | with_reducible refine wpAny_loadPart_at hC ?_ | (with_reducible refine wpAny_isSubtype_exc hC ?_; first | rw [inB] | rw [inA] | rw [inN]) | wp_step)
  show RR _ _; rw [Heap.size_push]; exact fin
theorem tcall_kw (XB : ExcBaseFacts B newId initId bmB) (hT : ∀ X : String, bm.contains (.type X) = bmB.contains (.type X)) {rest : List Value} {kw : List (Str × Value)} {fI : Addr} {Q : Fin → Shared → Prop} (hC : h.get? C = some (excClassObj nm q C N bs bm hdct sn sub ab col dd k0 k1 k2 k3 k5 newId))
    (hi : Looks (model pr ww) h (typeLookup (.ref C) "__init__") (some (.ref fI))) (hb : ∀ self, Looks (model pr ww) h (bindSpecial (.ref fI) self) (.ref fI, [self])) (hz : rest.length ≤ sizeLine)
    (fin : codeAny (model pr ww) Ar (.call (.ref fI) ⟨.ref (h.objs.size + 1) :: rest, kw⟩) (fun r s' => match r with | .ok (.ret v) => v = .none ∧ Q (.done (.ret (.ref (h.objs.size + 1)))) s' | .ok _ => False | .error e => E e s') ⟨(h.push (kdv_tup rest)).push (excO C h.objs.size), gg, dr, tt, oss⟩) :
    wpAny (model pr ww) Ar (Builtin.«type.__call__» ⟨.ref C :: rest, kw⟩) Q E ⟨h, gg, dr, tt, oss⟩ := by
  repeat (first | with_reducible refine wpAny_loadPart_at hC ?_ | with_reducible refine wpAny_madeBy_exc hC ?_ | wp_step)
  refine codeAny_call_builtin_code (Code.quiet_builtin _ XB.quiet) (check_new_kw XB hT hC ?_); refine new_kw XB hT hC ?_ hz; show wpAny _ _ _ _ _ _
  have kp : ∀ b o, h.get? b = some o → ((h.push (kdv_tup rest)).push (excO C h.objs.size)).get? b = some o := fun b o z => Heap.get?_push_of_some _ (Heap.get?_push_of_some _ z)
  have hC2 := kp _ _ hC
  have hat : ((h.push (kdv_tup rest)).push (excO C h.objs.size)).get? (h.objs.size + 1) = some (excO C h.objs.size) := by heap_get
  have inC : (Value.ref C :: bm).contains (.ref C) = true := by simp
  have i2 := hi.keeps kp; have b2 := (hb (.ref (h.objs.size + 1))).keeps kp; unfold isInstance
  repeat (first | with_reducible refine wpAny_loadPart_at hat ?_ | (with_reducible refine wpAny_isSubtype_exc hC2 ?_; rw [inC]) | wp_step)
  show wpAny _ _ (typeLookup (.ref C) _) _ _ _; refine i2.at ?_; refine wpAny_holding (wpAny_bind (b2.at ?_)); refine wpAny_bind (wpAny_call (codeAny_mono fin fun r s' z => ?_))
  rcases r with e | fl
  · exact z
  · cases fl with
    | ret v =>
      obtain ⟨rfl, z⟩ := z
      first
        | exact wpAny_pure (wpAny_pure z)
        | (wp_walk; exact z)
    | next => exact z.elim
    | brk => exact z.elim
    | cont => exact z.elim
theorem call_kw (XB : ExcBaseFacts B newId initId bmB) (hT : ∀ X : String, bm.contains (.type X) = bmB.contains (.type X)) {rest : List Value} {kw : List (Str × Value)} {fI : Addr} (hC : h.get? C = some (excClassObj nm q C N bs bm hdct sn sub ab col dd k0 k1 k2 k3 k5 newId))
    (hi : Looks (model pr ww) h (typeLookup (.ref C) "__init__") (some (.ref fI))) (hb : ∀ self, Looks (model pr ww) h (bindSpecial (.ref fI) self) (.ref fI, [self])) (hz : rest.length ≤ sizeLine)
    (fin : codeAny (model pr ww) (Ar.under (.builtin "type.__call__" ⟨.ref C :: rest, kw⟩)) (.call (.ref fI) ⟨.ref (h.objs.size + 1) :: rest, kw⟩) (InitBack (h.objs.size + 1) RR) ⟨(h.push (kdv_tup rest)).push (excO C h.objs.size), gg, dr, tt, oss⟩) :
    codeAny (model pr ww) Ar (.call (.ref C) ⟨rest, kw⟩) RR ⟨h, gg, dr, tt, oss⟩ := by
  have b1 := tc_lookup
  have b2 := tc_bind (.ref C)
  have hTy : (⟨h, gg, dr, tt, oss⟩ : Shared).TypeIs (.ref C) "type" := ⟨_, hC, rfl⟩
  refine codeAny_of_tree ?_; show wpAny _ _ (callAny (.ref C) _) _ _ _
  repeat (any_goals (first | assumption | with_reducible refine wpAny_loadPart_at hC ?_ | wp_step))
  refine ⟨rfl, codeAny_call_builtin_at (Code.quiet_builtin _ (by decide +kernel)) entry_typeCall (check_call_kw hC (tcall_kw XB hT hC hi hb hz ?_))⟩
  refine codeAny_mono fin fun r s' z => ?_
  rcases r with e | (v | _ | _ | _) <;> exact z
end
end DL
/-! DLEB5: readings of errors as values. -/
namespace DL
open PySem L2 PySem.Spec PyProof.Rows
def tMkVK (C : Addr) (m : Nat) (sp : Sp) (gV : List V → List V → List V) (tk : TA) : TE := fun σ H Q => tk σ H fun zs H2 => zs.length = m ∧ ∀ a, H2 a = none → sp (gV [.ref a] zs) (upd H2 a (exo a C none)) (fun v H3 => v = .non ∧ Q (.ref a) H3) fun _ _ _ => False
section
variable {X : Cx} {kws : List Keyword} {tk : TA} {f : Str} {p pos : Pos}
theorem pe_mkvK {CX : CXT} {x : Str} {C fI : Addr} {k : Nat} {fd : FuncData} {ps ks : List Str} {sp : Sp} {g : List Value → List Value → List Value} {gV : List V → List V → List V} (T : OexB X.K C) (iC : PySem.W.findIn X.K (.ref C) "__init__" = some (some (.ref fI))) (tI : PySem.W.typeIn X.K (.ref fI) = some (.type "function"))
    (F1 : FnOk X.prog X.w X.K X.mg X.base CX k fI fd ps sp) (hr : Room (k + 1) X.A) (hb : KBn X.K fd ps 1 ks g gV) (hx : Passes CX X (fun _ _ _ => False)) (hg : Gl X x) (hm : X.mg x = some (.ref C)) (hkw : PK X kws tk)
    (hall : (backToKw pos (keywordEach kws X.env)).all (·.1.isSome) = true := by rfl) (hks : (backToKw pos (keywordEach kws X.env)).filterMap (·.1) = ks := by rfl) (hdb : (x == ("__debug__" : Str)) = false := by decide)
    (hpl : ((backTo pos (starEach [] X.env)).any (·.1) || (backToKw pos (keywordEach kws X.env)).any (·.1.isNone)) = false := by rfl) :
    PE X (.Call (.Name x p) [] kws pos) (tMkVK C ks.length sp gV tk) := ⟨fun pins s σ H Q I h => by
  obtain ⟨nm, q, N, bs, bm, sn, sub, ab, col, dd, k0, k1, k2, k3, k5, newId, tl, hC, hbm, ⟨⟨B, initId, XB⟩, _, _⟩⟩ := T.cls
  refine wpAny_Call_Name_kw (ld_glob I hg hm ?_ hdb)
  refine PySem.W.callWith_KW0 (h₀ := X.base) I.ok.mod.kin T.kC hall (thn (hkw.run pos pins s σ H _ I h) fun ws s2 ⟨zs, H1, J1, rz, l2, h1⟩ => ⟨J1.kIn, ?_⟩) hpl
  rw [hks]
  obtain ⟨hp, gg, dr, tk, os⟩ := s2
  have hn : H1 (hp.objs.size + 1) = none := J1.hok.fresh (Nat.le_succ _)
  have h2 := h1 (hp.objs.size + 1) hn
  have hget : ((hp.push (PySem.W.kdv_tup [])).push (PySem.HandSPX.excO C hp.objs.size)).get? (hp.objs.size + 1) = some (PySem.HandSPX.excO C hp.objs.size) := by heap_get
  have J2 : Inv X pins σ (upd H1 (hp.objs.size + 1) (exo (hp.objs.size + 1) C none)) ⟨(hp.push (PySem.W.kdv_tup [])).push (PySem.HandSPX.excO C hp.objs.size), gg, dr, tk, os⟩ :=
    J1.laid (t' := tk) (a := hp.objs.size + 1) (o := exo (hp.objs.size + 1) C none) (fun b o z => Heap.get?_push_of_some _ (Heap.get?_push_of_some _ z)) (Nat.le_succ _) (exo_ok hget)
  have rr := hb.rel (vs := [V.ref (hp.objs.size + 1)]) (us := [Value.ref (hp.objs.size + 1)]) (.cons rfl .nil) rz
  refine wpAny_call (call_kw XB (fun Y => refsT_has Y hbm) (J1.kIn _ _ hC) (PySem.W.looks_findIn J1.kIn iC) (fun self => PySem.W.bind_fn J1.kIn self tI) (Nat.zero_le _) ?_)
  refine codeAny_mono (F1.run _ X.stack _ _ ⟨[Value.ref (hp.objs.size + 1)], ks.zip ws⟩ _ _ _ (fun _ _ _ => False) (hr.make C [] (ks.zip ws)) (J2.env0.make C [] (ks.zip ws)) (hb.to _ [Value.ref (hp.objs.size + 1)] ws J2.kIn rfl (rz.length.symm.trans l2)) rr h2) fun r s' hq => ?_
  cases r with
  | error er => exact hx pins σ _ _ er s' J2 hq
  | ok fl =>
    cases fl with
    | ret u =>
      obtain ⟨v, H2, os2, bare2, un2, hok2, rv, ev, h3⟩ := hq
      subst ev
      exact ⟨rv, .ref (hp.objs.size + 1), H2, J2.call' (ch := []) os2 un2 hok2 bare2 (fun b z => absurd z (by simp)), rfl, h3⟩
    | next => exact hq.elim
    | brk => exact hq.elim
    | cont => exact hq.elim⟩
/-- err.f of an error that is at hand as a value -/
def tXfV (P : Addr → Prop) (f : Str) (te : TE) : TE := fun σ H Q => te σ H fun x H1 => ∃ (a C dd : Addr) (fs : List (Str × V)) (v : V), x = .ref a ∧ P C ∧ H1 a = some (exo a C (some dd)) ∧ H1 dd = some (exd dd fs) ∧ fs.lookup f = some v ∧ Q v H1
theorem exo_inst {pins : List (Addr × Obj)} {σ : L2.St} {H : Hp} {s : Shared} {a C : Addr} {d : Option Addr} (I : Inv X pins σ H s) (ha : H a = some (exo a C d)) (hd : ∀ dd, d = some dd → ∃ fs, H dd = some (exd dd fs)) :
    ∃ (oe : Obj) (od : Option Obj), PySem.W.InstAt s.heap a oe C od ∧ (∀ dd fs, d = some dd → H dd = some (exd dd fs) → ∃ (o : Obj) (mA : Str → Option Value), od = some o ∧ (∀ name, PySem.W.lookIn name o = some (mA name)) ∧ ∀ f, RelO (fs.lookup f) (mA f)) := by
  obtain ⟨t1, ho⟩ := exo_at I.hok ha
  cases d with
  | none => exact ⟨_, none, ⟨ho, rfl, rfl, trivial⟩, fun dd fs z => by cases z⟩
  | some dd =>
    obtain ⟨fs, hf⟩ := hd dd rfl
    obtain ⟨mA, hns, rel⟩ := exd_at I.hok hf
    obtain ⟨od, hod, hl⟩ := lookIn_ns hns
    refine ⟨_, some od, ⟨ho, rfl, rfl, hod⟩, fun d2 fs2 z h2 => ?_⟩
    cases z
    obtain ⟨mB, hnsB, relB⟩ := exd_at I.hok h2
    obtain ⟨od2, hod2, hl2⟩ := lookIn_ns hnsB
    rw [hod] at hod2
    cases hod2
    exact ⟨od, mB, rfl, hl2, relB⟩
theorem pe_xfV {e : Expr} {te : TE} {P : Addr → Prop} {n : Str} (T : ∀ C, P C → ErrK X.K C ∧ PySem.W.findIn X.K (.ref C) n = some none) (he : PE X e te) (hb : attributeBase e n X.env (eval e X.env) = eval e X.env := by rfl) :
    PE X (.Attribute e n pos) (tXfV P n te) := ⟨fun pins s σ H Q I h => by
  refine attr_of hb (thn (he.run pins s σ H _ I h) fun u t1 hh => ?_)
  obtain ⟨x, H1, J1, rx, a, C, dd, fs, v, ex, hP, ha, hd, hl, q⟩ := hh
  subst ex
  cases rx
  obtain ⟨T1, hno⟩ := T C hP
  obtain ⟨oe, od, J, hod⟩ := exo_inst J1 ha fun d2 z => by
    cases z
    exact ⟨fs, hd⟩
  obtain ⟨o, mA, rfl, hlk, rel⟩ := hod dd fs rfl hd
  obtain ⟨y, hy, ry⟩ := RelO.some_of (v := v) (o := mA n) (by rw [← hl]; exact rel n)
  exact HandSPX.exc_get J1.kIn J T1.xf.ga T1.xf.gg T1.xf.exC (PySem.W.findObj_own T1.xf.hdC hno rfl (by rw [hlk, hy])) (handed_of ry) ⟨v, H1, J1.tok _, ry, q⟩⟩
/-- isinstance(err, c) -/
def rIsV (K : PySem.W.Frag) (P : Addr → Prop) : List V → Hp → VK → Prop := fun xs H Q => ∃ (a C : Addr) (d : Option Addr) (c : V) (cv : Value) (b : Bool), xs = [.ref a, c] ∧ (∀ u, RelV c u → u = cv) ∧ P C ∧ H a = some (exo a C d) ∧ (∀ dd, d = some dd → ∃ fs, H dd = some (exd dd fs)) ∧ PySem.W.kitOne K (.ref C) cv = some b ∧ Q (.bl b) H
theorem call_isV {P : Addr → Prop} (T : ∀ C, P C → ErrK X.K C) : CallR X (.builtin "isinstance") (rIsV X.K P) := by
  intro pins s σ H xs us Q I r h
  obtain ⟨a, C, d, c, cv, b, rfl, hcv, hP, ha, hd, e, q⟩ := h
  obtain ⟨u1, u2, rfl, r1, r2⟩ := vals2 r
  cases r1
  have e2 := hcv _ r2
  subst e2
  obtain ⟨oe, od, J, _⟩ := exo_inst I ha hd
  have T1 := T C hP
  exact PySem.W.kia_one (PySem.W.kitx_exc T1.cl T1.xf.ga T1.xf.gg T1.xf.exC T1.ha T1.hn T1.ht T1.hm) I.kIn J e (fun z => nomatch z) fun tk => ⟨.bl b, H, I.tok tk, rfl, q⟩
end
end DL
/-! DLEB6: errors as values, over data. -/
namespace DL
open PySem L2 PySem.Spec PyProof.Rows
section
variable {P : Program} {w : World} {K : PySem.W.Frag} {mg : Str → Option Value} {base : Heap}
theorem ok_errB {x qual : Str} {st : Stmt} {g C : Addr} {fd : FuncData} {f v : Str} (F : Fun K x qual st g fd) (sc : FnScope ["self", v] ["self", v] (defScope st)) (T : OexB K C) (hno : PySem.W.findIn K (.ref C) f = some none)
    (hb : ∀ (cdv : Value) (A : Around) (outer : List Env) (s : Shared) (H : Hp) (E : XK), PSs (cxOf (L2.CX P w) P w K mg base ["self", v] qual (defScope st) g cdv A outer s H E) (defBody st) (tOstB K f (tVar 0) (tVar 1))) :
    FnOk P w K mg base (L2.CX P w) 1 g fd ["self", v] (spEx C f) :=
  F.okX sc (fun vs H Q E h => by
    obtain ⟨a, y, rfl, _⟩ := h
    rfl) fun cdv A outer s H vs Q E hr h => by
    obtain ⟨a, y, rfl, ha, hq⟩ := h
    exact ⟨_, hb cdv A outer s H E, y, rfl, .ref a, rfl, a, C, rfl, T, hno, .inl ⟨ha, fun d h1 h2 => hq d h1 h2⟩⟩
/-- two fields -/
def spEx2 (C : Addr) (f g : Str) : Sp := fun vs H Q _ => ∃ (a : Addr) (y z : V), vs = [.ref a, y, z] ∧ H a = some (exo a C none) ∧ ∀ d, H d = none → d ≠ a → Q .non (upd (upd (upd H d (exd d [(f, y)])) a (exo a C (some d))) d (exd d [(g, z), (f, y)]))
theorem ok_errB2 {x qual : Str} {st : Stmt} {gI C : Addr} {fd : FuncData} {f g v u : Str} (F : Fun K x qual st gI fd) (sc : FnScope ["self", v, u] ["self", v, u] (defScope st)) (T : OexB K C) (hno : PySem.W.findIn K (.ref C) f = some none) (hno2 : PySem.W.findIn K (.ref C) g = some none)
    (hb : ∀ (cdv : Value) (A : Around) (outer : List Env) (s : Shared) (H : Hp) (E : XK), PSs (cxOf (L2.CX P w) P w K mg base ["self", v, u] qual (defScope st) gI cdv A outer s H E) (defBody st) (tSeq (tOstB K f (tVar 0) (tVar 1)) (tOstB K g (tVar 0) (tVar 2)))) :
    FnOk P w K mg base (L2.CX P w) 1 gI fd ["self", v, u] (spEx2 C f g) :=
  F.okX sc (fun vs H Q E h => by
    obtain ⟨a, y, z, rfl, _⟩ := h
    rfl) fun cdv A outer s H vs Q E hr h => by
    obtain ⟨a, y, z, rfl, ha, hq⟩ := h
    refine ⟨_, hb cdv A outer s H E, y, rfl, .ref a, rfl, a, C, rfl, T, hno, .inl ⟨ha, fun d h1 h2 => ?_⟩⟩
    refine ⟨z, rfl, .ref a, rfl, a, C, rfl, T, hno2, .inr ⟨d, [(f, y)], upd_same, ?_, by simp, hq d h1 h2⟩⟩
    rw [upd_ne h2, upd_same]
end
section
variable [Tbl] {K : PySem.W.Frag} {E : XK} {ta tk : TA} {wa wk : WA} {te : TE} {we : WE}
theorem mk_twice {H : Hp} {p dx : Addr} {o1 o2 y : HO} (h : dx ≠ p) : upd (upd (upd H p o1) dx y) p o2 = upd (upd H dx y) p o2 := by
  funext b
  by_cases hb : b = p
  · rw [hb, upd_same, upd_same]
  · rw [upd_ne hb, upd_ne hb]
    by_cases hd : b = dx
    · rw [hd, upd_same, upd_same]
    · rw [upd_ne hd, upd_ne hd, upd_ne hb]
theorem mk_last {H : Hp} {p dx : Addr} {o y y2 : HO} (h : dx ≠ p) : upd (upd (upd H dx y) p o) dx y2 = upd (upd H dx y2) p o := by
  funext b
  by_cases hd : b = dx
  · rw [hd, upd_same, upd_ne h, upd_same]
  · rw [upd_ne hd]
    by_cases hb : b = p
    · rw [hb, upd_same, upd_same]
    · rw [upd_ne hb, upd_ne hb, upd_ne hd, upd_ne hd]
/-- an error of one field, of two -/
def wMkX (C : Addr) (f : Str) (wa : WA) : WE := fun env er q => wa env er fun ds => match ds with
  | [d] => q (.exc C [(f, d)])
  | _ => False
def wMkX2 (C : Addr) (f g : Str) (wa : WA) : WE := fun env er q => wa env er fun ds => match ds with
  | [d, e] => q (.exc C [(g, e), (f, d)])
  | _ => False
/-- the error as it stands is known from now on -/
theorem mk_rep {F H : Hp} {p dx : Addr} {C : Addr} {fs : List (Str × V)} {gs : List (Str × D)} {Q : VK} {q : D → Prop} (s : Fz F H) (hp : H p = none) (hd : H dx = none) (ne : dx ≠ p) (r : RepF K F fs gs) (k : VL K F H Q q) (w : q (.exc C gs)) : Q (.ref p) (upd (upd H dx (exd dx fs)) p (exo p C (some dx))) := by
  have s1 : Stp F (upd F dx (exd dx fs)) H (upd H dx (exd dx fs)) := Stp.new s hd
  have hp2 : (upd H dx (exd dx fs)) p = none := by rw [upd_ne (Ne.symm ne)]; exact hp
  have s2 : Stp (upd F dx (exd dx fs)) (upd (upd F dx (exd dx fs)) p (exo p C (some dx))) (upd H dx (exd dx fs)) (upd (upd H dx (exd dx fs)) p (exo p C (some dx))) := Stp.new s1.fh hp2
  refine k _ _ _ _ (s1.trans s2) (.exc (d := some dx) upd_same ?_ (r.mono (s1.ff.trans s2.ff))) w
  show upd (upd F dx (exd dx fs)) p (exo p C (some dx)) dx = some (exd dx fs)
  rw [upd_ne ne, upd_same]
theorem sim_mkX {C : Addr} {f : Str} (ha : SimA K E ta wa) : SimE K E (tMkV C (spEx C f) [] ta) (wMkX C f wa) := fun B env F σ H Q er q a l w k =>
  ha B env F σ H _ er _ a l w fun xs ds F1 H1 s1 r1 w1 => by
    split at w1
    · rename_i d
      cases r1 with
      | @cons v vs _ _ r1 r2 =>
        cases r2
        refine ⟨by simp, fun p hp => ⟨p, v, rfl, upd_same, fun dx h1 h2 => ⟨rfl, ?_⟩⟩⟩
        rw [upd_ne h2] at h1
        rw [mk_twice h2]
        exact mk_rep s1.fh hp h1 h2 (.cons r1 .nil) (k.step s1) w1
    · exact w1.elim
theorem sim_mkX2 {C : Addr} {f g : Str} (ha : SimA K E ta wa) : SimE K E (tMkV C (spEx2 C f g) [] ta) (wMkX2 C f g wa) := fun B env F σ H Q er q a l w k =>
  ha B env F σ H _ er _ a l w fun xs ds F1 H1 s1 r1 w1 => by
    split at w1
    · rename_i d e
      cases r1 with
      | @cons v vs _ _ r1 r2 =>
        cases r2 with
        | @cons u us _ _ r2 r3 =>
          cases r3
          refine ⟨by simp, fun p hp => ⟨p, v, u, rfl, upd_same, fun dx h1 h2 => ⟨rfl, ?_⟩⟩⟩
          rw [upd_ne h2] at h1
          rw [mk_twice h2, mk_last h2]
          exact mk_rep s1.fh hp h1 h2 (.cons r2 (.cons r1 .nil)) (k.step s1) w1
    · exact w1.elim
def wMkXK (C : Addr) (f : Str) (wk : WA) : WE := fun env er q => wk env er fun ds => match ds with
  | [d] => q (.exc C [(f, d)])
  | _ => False
theorem sim_mkXK {C : Addr} {f : Str} {gV : List V → List V → List V} (hg : ∀ p z, gV [.ref p] [z] = [.ref p, z]) (hk : SimA K E tk wk) : SimE K E (tMkVK C 1 (spEx C f) gV tk) (wMkXK C f wk) := fun B env F σ H Q er q a l w k =>
  hk B env F σ H _ er _ a l w fun xs ds F1 H1 s1 r1 w1 => by
    split at w1
    · rename_i d
      cases r1 with
      | @cons v vs _ _ r1 r2 =>
        cases r2
        refine ⟨rfl, fun p hp => ⟨p, v, hg p v, upd_same, fun dx h1 h2 => ⟨rfl, ?_⟩⟩⟩
        rw [upd_ne h2] at h1
        rw [mk_twice h2]
        exact mk_rep s1.fh hp h1 h2 (.cons r1 .nil) (k.step s1) w1
    · exact w1.elim
/-- two fields by keywords, the second one first -/
def wMkX2K (C : Addr) (f g : Str) (wk : WA) : WE := fun env er q => wk env er fun ds => match ds with
  | [e, d] => q (.exc C [(g, e), (f, d)])
  | _ => False
theorem sim_mkX2K {C : Addr} {f g : Str} {gV : List V → List V → List V} (hg : ∀ p z u, gV [.ref p] [z, u] = [.ref p, u, z]) (hk : SimA K E tk wk) : SimE K E (tMkVK C 2 (spEx2 C f g) gV tk) (wMkX2K C f g wk) := fun B env F σ H Q er q a l w k =>
  hk B env F σ H _ er _ a l w fun xs ds F1 H1 s1 r1 w1 => by
    split at w1
    · rename_i e d
      cases r1 with
      | @cons u us _ _ r1 r2 =>
        cases r2 with
        | @cons v vs _ _ r2 r3 =>
          cases r3
          refine ⟨rfl, fun p hp => ⟨p, v, u, hg p u v, upd_same, fun dx h1 h2 => ⟨rfl, ?_⟩⟩⟩
          rw [upd_ne h2] at h1
          rw [mk_twice h2, mk_last h2]
          exact mk_rep s1.fh hp h1 h2 (.cons r1 (.cons r2 .nil)) (k.step s1) w1
    · exact w1.elim
def inE (l : ECs) (C : Addr) : Prop := (l.lookup C).isSome = true
theorem inE_k {l : ECs} {efs : List Str} (h : EcOk K l efs) {C : Addr} (e : inE l C) : ErrK K C := by
  unfold inE at e
  cases e2 : l.lookup C with
  | none =>
    rw [e2] at e
    cases e
  | some u => exact (h.ok _ (look_in e2)).1
theorem inE_na {l : ECs} {efs : List Str} (h : EcOk K l efs) {C : Addr} (e : inE l C) {f : Str} (hf : f ∈ efs) : PySem.W.findIn K (.ref C) f = some none := by
  unfold inE at e
  cases e2 : l.lookup C with
  | none =>
    rw [e2] at e
    cases e
  | some u => exact h.na _ (look_in e2) f hf
def wXfX (l : ECs) (f : Str) (we : WE) : WE := fun env er q => we env er fun d => match d with
  | .exc C fs => inE l C ∧ match fs.lookup f with
    | some x => q x
    | none => False
  | _ => False
theorem sim_xfX {l : ECs} {f : Str} (h : SimE K E te we) : SimE K E (tXfV (inE l) f te) (wXfX l f we) := fun B env F σ H Q er q a z w k =>
  h B env F σ H _ er _ a z w fun x d F1 H1 s1 r1 w1 => by
    cases r1 with
    | @exc p C dx xs fs h1 h2 h3 =>
      obtain ⟨w1, w2⟩ := w1
      cases e2 : fs.lookup f with
      | none =>
        rw [e2] at w2
        exact w2.elim
      | some y =>
        rw [e2] at w2
        obtain ⟨v, e3, rv⟩ := h3.lookup e2
        cases dx with
        | none =>
          have h2 : xs = [] := h2
          subst h2
          cases e3
        | some dd => exact ⟨p, C, dd, xs, v, rfl, w1, s1.fh _ _ h1, s1.fh _ _ h2, e3, (k.step s1).here s1.fh rv w2⟩
    | _ => exact w1.elim
/-- isinstance(err, c) -/
def wIsX (ask : Addr → Option Bool) (we : WE) : WE := fun env er q => we env er fun d => match d with
  | .exc C _ => ∃ b, ask C = some b ∧ q (.bl b)
  | _ => False
theorem sim_isX {l : ECs} {cv : V} {u : Value} {ask : Addr → Option Bool} (hu : ∀ z, RelV cv z → z = u) (hk : ∀ C b, ask C = some b → inE l C ∧ PySem.W.kitOne K (.ref C) u = some b) (h : SimE K E te we) : SimE K E (tCB (rIsV K (inE l)) (tCons te (tCons (tC cv) tNil))) (wIsX ask we) := fun B env F σ H Q er q a z w k =>
  h B env F σ H _ er _ a z w fun x d F1 H1 s1 r1 w1 => by
    cases r1 with
    | @exc p C dx xs fs h1 h2 h3 =>
      obtain ⟨b, e, w2⟩ := w1
      obtain ⟨g1, g2⟩ := hk C b e
      refine ⟨p, C, dx, cv, u, b, rfl, hu, g1, s1.fh _ _ h1, fun dd z => ?_, g2, (k.step s1).here s1.fh (.bl b) w2⟩
      subst z
      exact ⟨xs, s1.fh _ _ h2⟩
    | _ => exact w1.elim
end
end DL
/-! DLEB7: errors without fields. -/
namespace DL
open PySem L2 PySem.Spec PyProof.Rows
section
variable {X : Cx} {p pos : Pos}
theorem pe_mkv0 {C : Addr} {bmB : List Value} {B newId initId : String} {x : Str} (XB : ExcBaseFacts B newId initId bmB) (q : PySem.W.excIn X.K C bmB newId = true) (gC : X.mg x = some (.ref C)) (kC : PySem.W.keepIn X.K (.ref C) = true) (hg : Gl X x) (hdb : (x == ("__debug__" : Str)) = false := by decide) :
    PE X (.Call (.Name x p) [] [] pos) (fun σ H Q => ∀ a, H a = none → Q (.ref a) (upd H a (exo a C none))) := ⟨fun pins s σ H Q I h => by
  refine wpAny_Call_Name_kw (ld_glob I hg gC ?_ hdb)
  refine PySem.W.callWith_KW0 (h₀ := X.base) I.ok.mod.kin kC (by rfl) ?_ (by rfl)
  refine thn (pk_nil.run pos pins s σ H (fun zs H2 => H2 = H ∧ zs = []) I ⟨rfl, rfl⟩) fun ws s2 h2 => ?_
  obtain ⟨zs, H2, J, rz, e1, e2⟩ := h2
  subst e1 e2
  cases rz
  refine ⟨J.kIn, ?_⟩
  show wpAny _ _ (call (.ref C) []) _ _ _
  obtain ⟨bm, N, nm, qn, bs, hdct, sn, sub, ab, col, dd, k0, k1, k2, k3, k5, mN, hC, hN, hni, T⟩ := exc_obj J.kIn q
  refine wpAny_call_exc_subT XB T hC hN hni (fun h2 a hm => ?_) (Nat.zero_le _)
  have hn : H2 a = none := J.hok.gone hm.new
  obtain ⟨t, ht, _, _⟩ := hm.there
  exact ⟨.ref a, upd H2 a (exo a C none), J.laidN hm.keeps hm.new hn (exo_ok ht), rfl, h a hn⟩⟩
end
section
variable [Tbl] {K : PySem.W.Frag} {E : XK}
def wMkX0 (C : Addr) : WE := fun _ _ q => q (.exc C [])
theorem sim_mkX0 {C : Addr} : SimE K E (fun _ H Q => ∀ a, H a = none → Q (.ref a) (upd H a (exo a C none))) (wMkX0 C) := fun B env F σ H Q er q a l w k p hp =>
  k _ _ _ _ (Stp.new a.fh hp) (.exc (d := none) upd_same rfl .nil) w
end
end DL
/-! DLEB8: xs.index(True); which class an error is of. -/
namespace DL
open PySem L2 PySem.Spec PyProof.Rows
section
variable [Tbl] {K : PySem.W.Frag} {E : XK} {ta tk : TA} {wa wk : WA} {te tl : TE} {we : WE}
theorem flat_bls (ys : List Bool) : (ys.map V.bl).all flatV = true := by
  rw [List.all_map]
  exact List.all_eq_true.mpr fun _ _ => rfl
/-- xs.index(True), a list of truth values -/
def wIndexB (wo : WO) : WE := fun env er q => wo env er fun l => ∃ ys, bools l = some ys ∧ true ∈ ys ∧ q (.int (ys.idxOf true : Nat))
theorem sim_indexB {wo : WO} (ho : SimL K E tl wo) : SimE K E (tBM K "list" (rIndex K) tl (tCons (tC (.bl true)) tNil)) (wIndexB wo) := fun B env F σ H Q er q a l w k =>
  ho B env F σ H _ er _ a l w fun p xs ds F1 H1 s1 h1 r1 ⟨ys, ey, hm, w3⟩ => ⟨.inl ⟨rfl, xs, h1⟩, by
    obtain rfl := bools_rep r1 ey
    have hi : ys.idxOf true < ys.length := List.idxOf_lt_length_iff.mpr hm
    refine ⟨p, _, .bl true, ys.idxOf true, .bl true, rfl, rfl, h1, rfl, flat_bls ys, ?_, rfl, fun m z' hlt e => ?_, k _ _ F1 H1 s1 (.int _) w3⟩
    · rw [List.getElem?_map, List.getElem?_eq_getElem hi, List.getElem_idxOf hi]
      rfl
    · rw [List.getElem?_map] at e
      obtain ⟨y, ey2, rfl⟩ := Option.map_eq_some_iff.mp e
      cases y with
      | true => exact (idxOf_min ey2 hlt).elim
      | false => rfl⟩
end
section
variable {K : PySem.W.Frag} {l : ECs} {efs : List Str} {C E : Addr} {b : Bool}
theorem isEO_in (h : EcOk K l efs) (e : isEO l C E = some b) : inE l C ∧ PySem.W.kitOne K (.ref C) (.ref E) = some b := by
  refine ⟨?_, isEO_ok h e⟩
  unfold isEO at e
  unfold inE
  cases h3 : l.lookup C with
  | none =>
    rw [h3] at e
    cases e
  | some u => rfl
theorem isET_in (h : EcOk K l efs) {T : String} (e : isET l C T = some b) : inE l C ∧ PySem.W.kitOne K (.ref C) (.type T) = some b := by
  refine ⟨?_, isET_ok h e⟩
  unfold isET at e
  unfold inE
  cases h1 : l.lookup C with
  | none =>
    rw [h1] at e
    cases e
  | some u => rfl
theorem rel_ref {a : Addr} : ∀ z, RelV (.ref a) z → z = .ref a := fun z h => by
  cases h
  rfl
theorem rel_ty {n : String} : ∀ z, RelV (.ty n) z → z = .type n := fun z h => by
  cases h
  rfl
end
end DL
/-! DLEB9: repr of data with `{}` anywhere in it. -/
namespace DL
open PySem L2 PySem.Spec PyProof.Rows
mutual
inductive DpX (K : PySem.W.Frag) (H : Hp) : V → PyData → Prop
  | non : DpX K H .non .none
  | bl (b : Bool) : DpX K H (.bl b) (.bool b)
  | int (i : Int) : DpX K H (.int i) (.int i)
  | str (x : Str) : DpX K H (.str x) (.str x)
  | dk {a : Addr} : Rd H a (.dK []) → DpX K H (.ref a) (.dict [])
  | lst {a : Addr} {xs : List V} {ds : List PyData} : SqL K H a xs → DpXA K H xs ds → DpX K H (.ref a) (.list ds)
  | tup {a : Addr} {xs : List V} {ds : List PyData} : SqT K H a xs → DpXA K H xs ds → DpX K H (.ref a) (.tuple ds)
inductive DpXA (K : PySem.W.Frag) (H : Hp) : List V → List PyData → Prop
  | nil : DpXA K H [] []
  | cons {v : V} {vs : List V} {d : PyData} {ds : List PyData} : DpX K H v d → DpXA K H vs ds → DpXA K H (v :: vs) (d :: ds)
end
section
variable {X : Cx} {pins : List (Addr × Obj)} {σ : L2.St} {H : Hp} {s : Shared}
theorem dk_reads (I : Inv X pins σ H s) {a : Addr} (ha : Rd H a (.dK [])) : Reads s.heap (.ref a) (.dict []) [a] ∧ a ≠ sysModules := by
  obtain ⟨z1, z2, vs, kv, o, es, ep, ho, hx, hd, _, hp, _⟩ := dk_rd I.hok ha
  cases kv
  obtain ⟨hc, hdd, hsl⟩ := hx
  have e0 : es.toList = [] := by
    cases e : es.toList with
    | nil => rfl
    | cons c r =>
      rw [e] at hp
      cases hp
  refine ⟨.dict (as := []) (bs := []) ho hc hd (by rw [e0]; exact .nil) (by rw [e0]; exact .nil), fun e => ?_⟩
  rw [e] at z2
  simp at z2
variable {prog : Program} {w : World}
mutual
/-- what is needed to show a value: its reading, and how it is shown -/
theorem DpX.rk (I : Inv X pins σ H s) : ∀ (d : PyData) (v : V) (u : Value), DpX X.K H v d → RelV v u → d.showable = true → d.shown.length ≤ sizeLine →
    ∃ as, Reads s.heap u d as ∧ ∃ bs, ReadAtMost s.heap d.depth bs ∧ ReprK prog w bs s.heap d.depth u d.shown
  | .none, _, _, h, r, q1, q2 => by
    cases h
    cases r
    exact ⟨_, Reads.none, ReprK.of_reads Reads.none q1 (fun z => nomatch z) q2⟩
  | .bool b, _, _, h, r, q1, q2 => by
    cases h
    cases r
    exact ⟨_, Reads.bool b, ReprK.of_reads (Reads.bool b) q1 (fun z => nomatch z) q2⟩
  | .int i, _, _, h, r, q1, q2 => by
    cases h
    obtain ⟨t, rfl⟩ := r
    exact ⟨_, Reads.int i t, ReprK.of_reads (Reads.int i t) q1 (fun z => nomatch z) q2⟩
  | .str x, _, _, h, r, q1, q2 => by
    cases h
    obtain ⟨t, rfl⟩ := r
    exact ⟨_, Reads.str x t, ReprK.of_reads (Reads.str x t) q1 (fun z => nomatch z) q2⟩
  | .list ds, _, _, h, r, q1, q2 => by
    cases h with
    | lst hs ha =>
      cases r
      obtain ⟨its, rv, ⟨o, n, ho, hc, _, hd⟩, _⟩ := I.list hs
      have q3 : (listText (PyData.shownAll ds)).length ≤ sizeLine := by simpa only [PyData.shown] using q2
      obtain ⟨as, hr, bs, hb, hk⟩ := DpX.rkA I ds _ its ha rv (by simpa [PyData.showable] using q1) fun t ht => Nat.le_trans (listText_mem_le ht) q3
      have rd := Reads.list ho hc hd hr
      have nb := not_mem_of_deeper rd (n := PyData.depthAll ds) (by simp only [PyData.depth]; omega) hb
      refine ⟨_, rd, _ :: bs, ReadAtMost.cons rd (by simp only [PyData.depth]; omega) hb, ?_⟩
      simp only [PyData.depth, PyData.shown]
      cases its with
      | nil =>
        cases hr
        simp only [PyData.shownAll, listText_nil]
        exact ReprK.listEmpty ho hc hd
      | cons y l => exact ReprK.list ho hc hd nb (by simpa using hk.length_eq) fun j z e => hk.item j z (by simpa using e)
  | .tuple ds, _, _, h, r, q1, q2 => by
    cases h with
    | tup hs ha =>
      cases r
      obtain ⟨its, rv, ⟨o, ho, hc, n, hd⟩, _⟩ := I.tuple hs
      have q3 : (tupleText (PyData.shownAll ds)).length ≤ sizeLine := by simpa only [PyData.shown] using q2
      obtain ⟨as, hr, bs, hb, hk⟩ := DpX.rkA I ds _ its ha rv (by simpa [PyData.showable] using q1) fun t ht => Nat.le_trans (tupleText_mem_le ht) q3
      have rd := Reads.tuple ho hc hd hr
      have nb := not_mem_of_deeper rd (n := PyData.depthAll ds) (by simp only [PyData.depth]; omega) hb
      refine ⟨_, rd, _ :: bs, ReadAtMost.cons rd (by simp only [PyData.depth]; omega) hb, ?_⟩
      simp only [PyData.depth, PyData.shown]
      exact ReprK.tuple ho hc hd nb hk
  | .dict ks, _, _, h, r, q1, q2 => by
    cases h with
    | dk ha =>
      cases r
      obtain ⟨rd, ne⟩ := dk_reads I ha
      exact ⟨_, rd, ReprK.of_reads rd q1 (fun _ m => ne (List.mem_singleton.mp m).symm) q2⟩
theorem DpX.rkA (I : Inv X pins σ H s) : ∀ (ds : List PyData) (vs : List V) (us : List Value), DpXA X.K H vs ds → Vals vs us → PyData.showableAll ds = true → (∀ t ∈ PyData.shownAll ds, t.length ≤ sizeLine) →
    ∃ as, ReadsAll s.heap us ds as ∧ ∃ bs, ReadAtMost s.heap (PyData.depthAll ds) bs ∧ ReprAllK prog w bs s.heap (PyData.depthAll ds) us (PyData.shownAll ds)
  | [], _, _, h, r, _, _ => by
    cases h
    cases r
    exact ⟨_, ReadsAll.nil, [], (fun _ z => nomatch z), by simp only [PyData.shownAll]; exact .nil⟩
  | d :: ds, _, _, h, r, q1, q2 => by
    cases h with
    | cons h1 h2 =>
      cases r with
      | cons r1 r2 =>
        have q3 : d.showable = true ∧ PyData.showableAll ds = true := by simpa [PyData.showableAll] using q1
        obtain ⟨as, e1, b1, k1, m1⟩ := DpX.rk I d _ _ h1 r1 q3.1 (q2 _ (by simp only [PyData.shownAll]; exact List.mem_cons_self ..))
        obtain ⟨cs, e2, b2, k2, m2⟩ := DpX.rkA I ds _ _ h2 r2 q3.2 fun t ht => q2 t (by simp only [PyData.shownAll]; exact List.mem_cons_of_mem _ ht)
        refine ⟨_, ReadsAll.cons e1 e2, b1 ++ b2, fun b hm => ?_, ?_⟩
        · simp only [PyData.depthAll]
          rcases List.mem_append.mp hm with hm | hm
          · obtain ⟨x1, x2, x3, x4⟩ := k1 b hm
            exact ⟨x1, x2, x3, Nat.le_trans x4 (Nat.le_max_left _ _)⟩
          · obtain ⟨x1, x2, x3, x4⟩ := k2 b hm
            exact ⟨x1, x2, x3, Nat.le_trans x4 (Nat.le_max_right _ _)⟩
        · simp only [PyData.depthAll, PyData.shownAll]
          exact .cons ((m1.more fun b hb => List.mem_append_left _ hb).level_le (Nat.le_max_left _ _)) (m2.more_le (fun b hb => List.mem_append_right _ hb) (Nat.le_max_right _ _))
end
end
section
variable {X : Cx}
def rReprN (K : PySem.W.Frag) : List V → Hp → VK → Prop := fun xs H Q => ∃ x p, xs = [x] ∧ DpX K H x p ∧ p.showable = true ∧ p.shown.length ≤ sizeLine ∧ p.depth ≤ 64 ∧ Q (.str p.shown) H
theorem call_reprN (hg : X.A.guards = some []) (hu : X.A.units + 128 < cLine) : CallR X (.builtin "repr") (rReprN X.K) := by
  intro pins s σ H xs us Q I r h
  obtain ⟨x, p, rfl, dp, h1, h3, h4, q⟩ := h
  obtain ⟨u, rfl, ru⟩ := vals1 r
  have key : ∀ (h1 : Heap) (tk0 : Tok) (tk : Nat), (∀ b o, s.heap.get? b = some o → h1.get? b = some o) → ∃ v H1, Inv X pins σ H1 { s with heap := h1, toks := tk } ∧ RelV v (.str p.shown tk0) ∧ Q v H1 := fun h1 tk0 tk k => ⟨.str p.shown, H, I.kept k, ⟨_, rfl⟩, q⟩
  have same : ∀ (tk0 : Tok) (tk : Nat), ∃ v H1, Inv X pins σ H1 { s with toks := tk } ∧ RelV v (.str p.shown tk0) ∧ Q v H1 := fun tk0 tk => key s.heap tk0 tk fun _ _ e => e
  cases dp with
  | non =>
    cases ru
    exact PySem.P.repr_of_none (same _ _)
  | bl b =>
    cases ru
    exact PySem.P.repr_of_bool (same _ _)
  | int i =>
    obtain ⟨t, rfl⟩ := ru
    exact PySem.P.repr_of_int (of_decide_eq_true h1) (same _ _)
  | str y =>
    obtain ⟨t, rfl⟩ := ru
    exact PySem.P.repr_of_str (same _ _) h3
  | dk ha =>
    cases ru
    obtain ⟨rd, ne⟩ := dk_reads I ha
    exact repr_of_reads' rd h1 (fun _ m => ne (List.mem_singleton.mp m).symm) hg (by omega) (fun _ _ e => e) (fun h1 tk0 tk k => key h1 tk0 tk k) h3
  | lst hs ha =>
    rename_i a xs ds
    cases ru
    obtain ⟨its, rv, ⟨o, n, ho, hc, _, hd⟩, _⟩ := I.list hs
    have q3 : (listText (PyData.shownAll ds)).length ≤ sizeLine := by simpa only [PyData.shown] using h3
    have hdp : PyData.depthAll ds + 1 ≤ 64 := by simpa only [PyData.depth] using h4
    obtain ⟨as, hr, bs, hb, hk⟩ := DpX.rkA (prog := X.prog) (w := X.w) I ds _ its ha rv (by simpa [PyData.showable] using h1) fun t ht => Nat.le_trans (listText_mem_le ht) q3
    have rd := Reads.list ho hc hd hr
    have nb := not_mem_of_deeper rd (n := PyData.depthAll ds) (by simp only [PyData.depth]; omega) hb
    refine call_repr_slot (by omega) ⟨o, ho, hc⟩ F.slot_list_repr.toG ?_
    simp only [PyData.shown] at key
    cases its with
    | nil =>
      cases hr
      simp only [PyData.shownAll, listText_nil] at key
      exact call_list_repr_empty ⟨o, ho, hc⟩ ho hd ⟨_, _, rfl, key s.heap _ _ fun _ _ e => e⟩
    | cons y l =>
      exact call_list_reprK ho hc hd nb (by simpa using hk.length_eq) (fun j z e => hk.item j z (by simpa using e)) hg (fun b _ => Clear.nil b) (by show X.A.units + 1 + _ < cLine; omega) (fun _ _ e => e) (fun h2 t2 tk2 kk => ⟨_, _, rfl, key h2 t2 tk2 kk⟩) q3
  | tup hs ha =>
    rename_i a xs ds
    cases ru
    obtain ⟨its, rv, ⟨o, ho, hc, n, hd⟩, _⟩ := I.tuple hs
    have q3 : (tupleText (PyData.shownAll ds)).length ≤ sizeLine := by simpa only [PyData.shown] using h3
    have hdp : PyData.depthAll ds + 1 ≤ 64 := by simpa only [PyData.depth] using h4
    obtain ⟨as, hr, bs, hb, hk⟩ := DpX.rkA (prog := X.prog) (w := X.w) I ds _ its ha rv (by simpa [PyData.showable] using h1) fun t ht => Nat.le_trans (tupleText_mem_le ht) q3
    have rd := Reads.tuple ho hc hd hr
    have nb := not_mem_of_deeper rd (n := PyData.depthAll ds) (by simp only [PyData.depth]; omega) hb
    refine call_repr_slot (by omega) ⟨o, ho, hc⟩ F.slot_tuple_repr ?_
    simp only [PyData.shown] at key
    exact call_tuple_reprK ho hc hd nb hk hg (fun b _ => Clear.nil b) (by show X.A.units + 1 + _ < cLine; omega) (fun _ _ e => e) (fun h2 t2 tk2 kk => ⟨_, _, rfl, key h2 t2 tk2 kk⟩) q3
end
mutual
def pdX : D → Option PyData
  | .non => some .none
  | .bl b => some (.bool b)
  | .int i => some (.int i)
  | .str x => some (.str x)
  | .tup l => (pdXA l).map .tuple
  | .lst l => (pdXA l).map .list
  | .dct [] => some (.dict [])
  | _ => none
def pdXA : List D → Option (List PyData)
  | [] => some []
  | d :: r => match pdX d, pdXA r with
    | some p, some ps => some (p :: ps)
    | _, _ => none
end
mutual
theorem dpx_of {K : PySem.W.Frag} [Tbl] {F H : Hp} (s : Same F H) : ∀ {x : V} {d : D} {p : PyData}, Rep K F x d → pdX d = some p → DpX K H x p
  | _, _, _, .non, e => by
    cases e
    exact .non
  | _, _, _, .bl b, e => by
    cases e
    exact .bl b
  | _, _, _, .int i, e => by
    cases e
    exact .int i
  | _, _, _, .str z, e => by
    cases e
    exact .str z
  | _, _, _, .ty n, e => by cases e
  | _, _, _, .tup (l := l) h r, e => by
    unfold pdX at e
    cases h2 : pdXA l with
    | none =>
      rw [h2] at e
      cases e
    | some ps =>
      rw [h2] at e
      cases e
      exact .tup (same_t s h) (dpxA_of s r h2)
  | _, _, _, .lst (l := l) h r, e => by
    unfold pdX at e
    cases h2 : pdXA l with
    | none =>
      rw [h2] at e
      cases e
    | some ps =>
      rw [h2] at e
      cases e
      exact .lst (SqL.of (s _ _ h)) (dpxA_of s r h2)
  | _, _, _, .ins _ _, e => by cases e
  | _, _, _, .dct h a, e => by
    cases a with
    | nil =>
      cases e
      exact .dk (.inr ⟨_, s _ _ h⟩)
    | cons _ _ => cases e
  | _, _, _, .tux _ _ _, e => by cases e
  | _, _, _, .exc _ _ _, e => by cases e
  | _, _, _, .fnv _ _ _ _, e => by cases e
  | _, _, _, .dci _ _, e => by cases e
  | _, _, _, .dcn _ _ _ _, e => by cases e
  | _, _, _, .lmv _ _, e => by cases e
  | _, _, _, .obj _, e => by cases e
  | _, _, _, .scr _, e => by cases e
  | _, _, _, .bag _, e => by cases e
theorem dpxA_of {K : PySem.W.Frag} [Tbl] {F H : Hp} (s : Same F H) : ∀ {xs : List V} {l : List D} {ps : List PyData}, RepA K F xs l → pdXA l = some ps → DpXA K H xs ps
  | _, _, _, .nil, e => by
    cases e
    exact .nil
  | _, _, _, .cons (d := d) (ds := ds) h r, e => by
    unfold pdXA at e
    cases h1 : pdX d with
    | none =>
      rw [h1] at e
      cases e
    | some p =>
      cases h2 : pdXA ds with
      | none =>
        rw [h1, h2] at e
        cases e
      | some ps =>
        rw [h1, h2] at e
        cases e
        exact .cons (dpx_of s h h1) (dpxA_of s r h2)
end
def dReprN : List D → (D → Prop) → Prop := fun ds q => match ds with
  | [d] => ∃ p, pdX d = some p ∧ p.showable = true ∧ p.shown.length ≤ sizeLine ∧ p.depth ≤ 64 ∧ q (.str p.shown)
  | _ => False
theorem sim_reprN [Tbl] {K : PySem.W.Frag} : SimC K (rReprN K) dReprN := fun F H xs ds Q q s r w k => by
  unfold dReprN at w
  split at w
  · cases r with
    | cons r1 r2 =>
      cases r2
      obtain ⟨p, e, h1, h3, h4, w⟩ := w
      exact ⟨_, p, rfl, dpx_of s r1 e, h1, h3, h4, k.here s (.str _) w⟩
  · exact w.elim
end DL
/-! DLEBG: the end of a law that shows values and has no tables of code. -/
namespace DL
open PySem L2 PySem.Spec PyProof.Rows
theorem walkGD {l : PySem.W.OpenLaw} {k : Nat} {x : Str} {q : Program} {loose : List Str} {XP : (Str → Option Value) → Heap → Prop} {YP : World → Heap → Prop} {d : DefRec} {K : Params → PySem.W.Frag} (hn : l.most = some 63) (hdf : d.params.defaults = []) (hr : Room k callerA)
    (hY : ∀ (w : World) (h : Heap), YP w h → (K w.params).In h)
    (F : ∀ (w : World) (mg : Str → Option Value) (fa : Addr) (h : Heap), (K w.params).In h → h.Ns mainGlobals mg → mg d.name = some (.ref fa) →
      ∃ fd : FuncData, (∀ (s : Shared) (u : Value), BindsTo s fd ⟨[u], []⟩ [(x, u)]) ∧ ∀ base : Heap, (K w.params).In base → base.Ns mainGlobals mg → FnG l.prog w (K w.params) mg base (L2.CX l.prog w) k fa fd [x] (@spOf (noTbl w) (K w.params) 1 sLawD)) :
    PySem.W.WalkO q loose XP YP l.row.toRowW d [] (fun f vs => PySem.call f vs) := by
  refine Att.attach_callB hn hdf fun w _ s mg mb fa o pm cd doc a us ns G Y ho hd hcd hmg hobj hints hlen hbits hg => ?_
  have KX := hY w _ Y
  obtain ⟨fd, h2, h3⟩ := F w mg fa _ KX G.T.g hmg
  exact law_callG (cs := []) (ds := []) (ps := []) rfl KX G.T.g G.T.b G.T.builtins G.T.nolimit hg G.T.bmain (fun p hp => nomatch hp) hobj hints hlen hr h2 fun base h1 h2 _ => h3 base h1 h2
end DL
/-! DLHR: the head by one kernel run, for programs whose defs make defs. -/
namespace DL
open PySem PySem.W PySem.Calls PyProof.Rows HeadRun
end DL
/-! DLHS: the head by two kernel runs: from the boot to a state told, from there to the end. -/
namespace DL
open PySem PySem.W PySem.Calls PyProof.Rows HeadRun
section
variable (st : SharedT → Thread → Option (SharedT × Thread)) (n0 : Nat) (ann : Option Value)
/-- so many steps of the top -/
def goG : Nat → SharedT → Thread → Option (SharedT × Thread)
  | 0, s, t => some (s, t)
  | m + 1, s, t => match through t with
    | true => none
    | false => match stepOk n0 ann t with
      | false => none
      | true => match st s t with
        | some (s', t') => frS s' fun s' => goG m s' t'
        | none => none
end
theorem goG_ok {tb : String → Option Builtin} {p : Program} {w : World} {n0 : Nat} {ann : Option Value} : ∀ {m : Nat} {s s' : SharedT} {t t' : Thread}, goG (stepT (denote tb) p w) n0 ann m s t = some (s', t') → topGo tb p w n0 ann m s.abs t = some (s'.abs, t')
  | 0, s, s', t, t', h => by
    have h : some (s, t) = some (s', t') := h
    injection h with h
    injection h with h1 h2
    subst h1 h2
    rfl
  | m + 1, s, s', t, t', h => by
    have h1 : (match through t with
      | true => none
      | false => match stepOk n0 ann t with
        | false => none
        | true => match stepT (denote tb) p w s t with
          | some (s', t') => frS s' fun s' => goG (stepT (denote tb) p w) n0 ann m s' t'
          | none => none) = some (s', t') := h
    unfold topGo
    cases ht : through t with
    | true =>
      rw [ht] at h1
      cases h1
    | false =>
      rw [ht] at h1
      cases hk : stepOk n0 ann t with
      | false =>
        rw [hk] at h1
        cases h1
      | true =>
        rw [hk] at h1
        have h2 : (match stepT (denote tb) p w s t with
          | some (s', t') => frS s' fun s' => goG (stepT (denote tb) p w) n0 ann m s' t'
          | none => none) = some (s', t') := h1
        cases hs : stepT (denote tb) p w s t with
        | none =>
          rw [hs] at h2
          cases h2
        | some r =>
          obtain ⟨s2, t2⟩ := r
          rw [hs] at h2
          have h3 : (frS s2 fun s' => goG (stepT (denote tb) p w) n0 ann m s' t2) = some (s', t') := h2
          rw [frS_eq] at h3
          have q := goG_ok h3
          show (match step (denote tb) p w s.abs t with
            | .go s' t' => topGo tb p w n0 ann m s' t'
            | .halt _ _ => none) = some (s'.abs, t')
          rw [stepT_spec hs]
          exact q
/-- the first part, from the boot -/
noncomputable def endG (st : SharedT → Thread → Option (SharedT × Thread)) (M : Nat) (p : Program) (w : World) (os : OsState) : Option (Nat × SharedT × Thread) := match putAll (boot_heap w.params).objs.toList .nil 0 with
  | some (t, n) => frNat n fun n0 => (goG st n0 (bootAnn w) M (bootT w os (t, n0)) (topStub p)).map fun r => (n0, r)
  | none => none
theorem endG_ok {M : Nat} {p : Program} {w : World} {os : OsState} {n0 : Nat} {s : SharedT} {t : Thread} (h : endG (stepT (denote treeTable) p w) M p w os = some (n0, s, t)) :
    n0 = (boot_heap w.params).objs.size ∧ topGo treeTable p w (boot_heap w.params).objs.size (bootAnn w) M ⟨boot_heap w.params, #[], boot_drawn, boot_toks, os⟩ (topStub p) = some (s.abs, t) := by
  unfold endG at h
  cases e : putAll (boot_heap w.params).objs.toList .nil 0 with
  | none =>
    rw [e] at h
    cases h
  | some r =>
    obtain ⟨tr, n⟩ := r
    rw [e] at h
    have h1 : (frNat n fun n0 => (goG (stepT (denote treeTable) p w) n0 (bootAnn w) M (bootT w os (tr, n0)) (topStub p)).map fun r => (n0, r)) = some (n0, s, t) := h
    rw [frNat_eq] at h1
    obtain ⟨⟨s2, t2⟩, h2, h3⟩ := Option.map_eq_some_iff.mp h1
    injection h3 with h3 h4
    injection h4 with h4 h5
    subst h3 h4 h5
    have q := goG_ok h2
    have eh := putAll_heap e
    have en : (boot_heap w.params).objs.size = n := by
      rw [← eh]
      exact absHeap_size tr n _
    have eb : (bootT w os (tr, n)).abs = ⟨boot_heap w.params, #[], boot_drawn, boot_toks, os⟩ := by
      show (⟨absHeap tr n (boot_heap w.params).life, #[], boot_drawn, boot_toks, os⟩ : Shared) = _
      rw [eh]
    rw [eb] at q
    rw [en]
    exact ⟨rfl, q⟩

theorem opt_pair {α β γ : Type} {R : Option α} {f : α → β} {g : α → γ} {a : β} {b : γ} (h1 : R.map f = some a) (h2 : R.map g = some b) : R.map (fun s => (f s, g s)) = some (a, b) := by
  cases R with
  | none => cases h1
  | some x =>
    have h1 := Option.some.inj h1
    have h2 := Option.some.inj h2
    show some (f x, g x) = _
    rw [h1, h2]
end DL
/-! DLHK: the head by two kernel runs, for programs without tables of code. -/
namespace DL
open PySem PySem.W PySem.Calls PyProof.Rows HeadRun
theorem left_sharedK {p q : Program} {loose : List PySem.Str} {Xt : Shared → Bool} {K : Params → Frag} {as : List Addr} {ek : ∀ P, as = (K P).map (·.1)} {N M1 M2 M3 n0 : Nat} {S S2 : World → OsState → SharedT} {T T2 : World → Thread}
    (e : opening p = plainProg p.main.scope.names) (hN : Nat.ble 600 N = true) (f : ∀ s, fenceModules? p s = some s) (le : Nat.ble (M1 + M3) N = true)
    (run1 : ∀ (w : World) (os : OsState), endG (stepQ (denQ tabQ) p w) M1 p w os = some (n0, S w os, T w))
    (ch : ∀ (w : World) (os : OsState) (r : Shared), topRun treeTable p w n0 (bootAnn w) M2 (S2 w os).abs (T2 w) = some r → topRun treeTable p w n0 (bootAnn w) M3 (S w os).abs (T w) = some r)
    (run2 : ∀ (w : World) (os : OsState), (goF (stepQ (denQ tabQ) p w) n0 (bootAnn w) M2 (S2 w os) (T2 w)).map (fun s => (looksF p (boot_heap w.params) s.abs, seenQ q loose (importedModules p.main.body) Xt s.abs, as.map (getT s))) = some (true, openGood q loose, (K w.params).map fun x => some x.2)) :
    LeftO p q loose Xt (Hook.obs (kHook K as ek)) (Hook.val (kHook K as ek)) N true := fun w => by
  obtain ⟨⟨h, gs, d, k, os⟩, a, a'⟩ := Option.map_eq_some_iff.mp (boot_open e hN f w)
  obtain ⟨rfl, rfl, rfl, rfl⟩ : h = boot_heap w.params ∧ gs = Array.mk [] ∧ d = boot_drawn ∧ k = boot_toks := by simpa using a'
  have z1 := run1 w os
  have z2 := run2 w os
  rw [← denQ_eq, ← tabQ_eq, ← stepQ_eq] at z1 z2
  obtain ⟨rfl, g1⟩ := endG_ok z1
  obtain ⟨s, hs, hv⟩ := Option.map_eq_some_iff.mp z2
  obtain ⟨l1, l2, l3⟩ : _ ∧ _ ∧ _ := by simpa only [Prod.mk.injEq] using hv
  have r := topRun_mono (N - (M1 + M3)) _ _ _ _ (go_top g1 (ch w os _ (goF_ok hs)))
  rw [show M1 + M3 + (N - (M1 + M3)) = N by have := Nat.le_of_ble_eq_true le; omega] at r
  have l1' : (staticsOk (importedModules p.main.body) (boot_heap w.params) s.abs.heap && namesBound p s.abs.heap && gensDone s.abs && laidKept (boot_heap w.params) s.abs.heap) = true := l1
  have t : topFrom treeTable p w N ⟨boot_heap w.params, Array.mk [], boot_drawn, boot_toks, os⟩ = some s.abs := by
    unfold topFrom
    dsimp only
    rw [boot_ns]
    show (topRun treeTable p w (boot_heap w.params).objs.size (bootAnn w) N ⟨boot_heap w.params, #[], boot_drawn, boot_toks, os⟩ (topStub p)).bind _ = _
    rw [r]
    show (match staticsOk (importedModules p.main.body) (boot_heap w.params) s.abs.heap && namesBound p s.abs.heap && gensDone s.abs && laidKept (boot_heap w.params) s.abs.heap with | true => some s.abs | false => none) = _
    rw [l1']
  unfold openEnds
  rw [a]
  show (topFrom treeTable p w N _).map _ = _
  rw [t]
  have q1 : as.map (getT s) = Hook.obs (kHook K as ek) s.abs := List.map_congr_left fun a _ => getT_eq s a
  refine congrArg some (Prod.ext ?_ ?_)
  · exact (seenQ_eq q loose (importedModules p.main.body) Xt s.abs).trans l2
  · exact q1.symm.trans l3

/-- the looks one by one -/
theorem left_looksK {p q : Program} {loose : List PySem.Str} {Xt : Shared → Bool} {K : Params → Frag} {as : List Addr} {ek : ∀ P, as = (K P).map (·.1)} {N M1 M2 M3 n0 : Nat} {S S2 : World → OsState → SharedT} {T T2 : World → Thread} {R : World → OsState → Option SharedT}
    (e : opening p = plainProg p.main.scope.names) (hN : Nat.ble 600 N = true) (f : ∀ s, fenceModules? p s = some s) (le : Nat.ble (M1 + M3) N = true)
    (run1 : ∀ (w : World) (os : OsState), endG (stepQ (denQ tabQ) p w) M1 p w os = some (n0, S w os, T w))
    (ch : ∀ (w : World) (os : OsState) (r : Shared), topRun treeTable p w n0 (bootAnn w) M2 (S2 w os).abs (T2 w) = some r → topRun treeTable p w n0 (bootAnn w) M3 (S w os).abs (T w) = some r)
    (eR : ∀ w os, R w os = goF (stepQ (denQ tabQ) p w) n0 (bootAnn w) M2 (S2 w os) (T2 w))
    (hA : ∀ w os, (R w os).map (fun s => looksF p (boot_heap w.params) s.abs) = some true)
    (hB : ∀ w os, (R w os).map (fun s => (seenQ q loose (importedModules p.main.body) Xt s.abs).1) = some (expectedOf q))
    (hC : ∀ w os, (R w os).map (fun s => (seenQ q loose (importedModules p.main.body) Xt s.abs).2.1) = some bltViewBooted)
    (hD : ∀ w os, (R w os).map (fun s => (seenQ q loose (importedModules p.main.body) Xt s.abs).2.2.1) = some true)
    (hE : ∀ w os, (R w os).map (fun s => (seenQ q loose (importedModules p.main.body) Xt s.abs).2.2.2.1) = some true)
    (hF : ∀ w os, (R w os).map (fun s => (seenQ q loose (importedModules p.main.body) Xt s.abs).2.2.2.2.1) = some (pinGoodD (drecsOf q)))
    (hG : ∀ w os, (R w os).map (fun s => (seenQ q loose (importedModules p.main.body) Xt s.abs).2.2.2.2.2.1) = some (plainGoodE q (looseW q loose)))
    (hH : ∀ w os, (R w os).map (fun s => (seenQ q loose (importedModules p.main.body) Xt s.abs).2.2.2.2.2.2.1) = some (plainGoodD q loose))
    (hI : ∀ w os, (R w os).map (fun s => (seenQ q loose (importedModules p.main.body) Xt s.abs).2.2.2.2.2.2.2.1) = some (wideGood q))
    (hJ : ∀ w os, (R w os).map (fun s => (seenQ q loose (importedModules p.main.body) Xt s.abs).2.2.2.2.2.2.2.2) = some (clsGoodW q loose))
    (hK : ∀ w os, (R w os).map (fun s => as.map (getT s)) = some ((K w.params).map fun x => some x.2)) :
    LeftO p q loose Xt (Hook.obs (kHook K as ek)) (Hook.val (kHook K as ek)) N true :=
  left_sharedK e hN f le run1 ch fun w os => by
    rw [← eR]
    exact opt_pair (hA w os) (opt_pair (opt_pair (hB w os) (opt_pair (hC w os) (opt_pair (hD w os) (opt_pair (hE w os) (opt_pair (hF w os) (opt_pair (hG w os) (opt_pair (hH w os) (opt_pair (hI w os) (hJ w os))))))))) (hK w os))
end DL
namespace Lw
open PySem L2 DL
structure Ad where
  c_ShapeError : PySem.Addr
  c_InvalidStep : PySem.Addr
  c_InvalidNumber : PySem.Addr
  c_InvalidNumbers : PySem.Addr
  c_InvalidDigits : PySem.Addr
  c_InvalidMoves : PySem.Addr
  c_InvalidSigns : PySem.Addr
  c_InvalidRule : PySem.Addr
  c_InvalidName : PySem.Addr
  c_InvalidWish : PySem.Addr
  c_InvalidText : PySem.Addr
  c_InvalidRows : PySem.Addr
  c_InvalidSayings : PySem.Addr
  c_InvalidGood : PySem.Addr
  c_InvalidGuards : PySem.Addr
  c_InvalidDeed : PySem.Addr
  c_InvalidLine : PySem.Addr
  c_NotASystem : PySem.Addr
  c_NotARow : PySem.Addr
  c_NotAWish : PySem.Addr
  c_NotABook : PySem.Addr
  c_NotAMachine : PySem.Addr
  c_QuestionError : PySem.Addr
  c_OtherSystem : PySem.Addr
  c_OtherNames : PySem.Addr
  c_UnknownRow : PySem.Addr
  c_UnknownSaying : PySem.Addr
  c_Never : PySem.Addr
  c_Endless : PySem.Addr
  c_TooFew : PySem.Addr
  c_Busy : PySem.Addr
  c_NothingToUndo : PySem.Addr
  c_Refused : PySem.Addr
  c_SizeError : PySem.Addr
  c_TooMany : PySem.Addr
  ne : [c_ShapeError, c_InvalidStep, c_InvalidNumber, c_InvalidNumbers, c_InvalidDigits, c_InvalidMoves, c_InvalidSigns, c_InvalidRule, c_InvalidName, c_InvalidWish, c_InvalidText, c_InvalidRows, c_InvalidSayings, c_InvalidGood, c_InvalidGuards, c_InvalidDeed, c_InvalidLine, c_NotASystem, c_NotARow, c_NotAWish, c_NotABook, c_NotAMachine, c_QuestionError, c_OtherSystem, c_OtherNames, c_UnknownRow, c_UnknownSaying, c_Never, c_Endless, c_TooFew, c_Busy, c_NothingToUndo, c_Refused, c_SizeError, c_TooMany].Nodup
def cd (A : Ad) : CtxD := cdOf []
def ec (A : Ad) : ECs := [(A.c_ShapeError, [A.c_ShapeError], ["ValueError", "Exception", "BaseException", "object"]), (A.c_InvalidStep, [A.c_InvalidStep, A.c_ShapeError], ["ValueError", "Exception", "BaseException", "object"]), (A.c_InvalidNumber, [A.c_InvalidNumber, A.c_ShapeError], ["ValueError", "Exception", "BaseException", "object"]), (A.c_InvalidNumbers, [A.c_InvalidNumbers, A.c_ShapeError], ["ValueError", "Exception", "BaseException", "object"]), (A.c_InvalidDigits, [A.c_InvalidDigits, A.c_ShapeError], ["ValueError", "Exception", "BaseException", "object"]), (A.c_InvalidMoves, [A.c_InvalidMoves, A.c_ShapeError], ["ValueError", "Exception", "BaseException", "object"]), (A.c_InvalidSigns, [A.c_InvalidSigns, A.c_ShapeError], ["ValueError", "Exception", "BaseException", "object"]), (A.c_InvalidRule, [A.c_InvalidRule, A.c_ShapeError], ["ValueError", "Exception", "BaseException", "object"]), (A.c_InvalidName, [A.c_InvalidName, A.c_ShapeError], ["ValueError", "Exception", "BaseException", "object"]), (A.c_InvalidWish, [A.c_InvalidWish, A.c_ShapeError], ["ValueError", "Exception", "BaseException", "object"]), (A.c_InvalidText, [A.c_InvalidText, A.c_ShapeError], ["ValueError", "Exception", "BaseException", "object"]), (A.c_InvalidRows, [A.c_InvalidRows, A.c_ShapeError], ["ValueError", "Exception", "BaseException", "object"]), (A.c_InvalidSayings, [A.c_InvalidSayings, A.c_ShapeError], ["ValueError", "Exception", "BaseException", "object"]), (A.c_InvalidGood, [A.c_InvalidGood, A.c_ShapeError], ["ValueError", "Exception", "BaseException", "object"]), (A.c_InvalidGuards, [A.c_InvalidGuards, A.c_ShapeError], ["ValueError", "Exception", "BaseException", "object"]), (A.c_InvalidDeed, [A.c_InvalidDeed, A.c_ShapeError], ["ValueError", "Exception", "BaseException", "object"]), (A.c_InvalidLine, [A.c_InvalidLine, A.c_ShapeError], ["ValueError", "Exception", "BaseException", "object"]), (A.c_NotASystem, [A.c_NotASystem, A.c_ShapeError], ["ValueError", "Exception", "BaseException", "object"]), (A.c_NotARow, [A.c_NotARow, A.c_ShapeError], ["ValueError", "Exception", "BaseException", "object"]), (A.c_NotAWish, [A.c_NotAWish, A.c_ShapeError], ["ValueError", "Exception", "BaseException", "object"]), (A.c_NotABook, [A.c_NotABook, A.c_ShapeError], ["ValueError", "Exception", "BaseException", "object"]), (A.c_NotAMachine, [A.c_NotAMachine, A.c_ShapeError], ["ValueError", "Exception", "BaseException", "object"]), (A.c_QuestionError, [A.c_QuestionError], ["LookupError", "Exception", "BaseException", "object"]), (A.c_OtherSystem, [A.c_OtherSystem, A.c_QuestionError], ["LookupError", "Exception", "BaseException", "object"]), (A.c_OtherNames, [A.c_OtherNames, A.c_QuestionError], ["LookupError", "Exception", "BaseException", "object"]), (A.c_UnknownRow, [A.c_UnknownRow, A.c_QuestionError], ["LookupError", "Exception", "BaseException", "object"]), (A.c_UnknownSaying, [A.c_UnknownSaying, A.c_QuestionError], ["LookupError", "Exception", "BaseException", "object"]), (A.c_Never, [A.c_Never, A.c_QuestionError], ["LookupError", "Exception", "BaseException", "object"]), (A.c_Endless, [A.c_Endless, A.c_QuestionError], ["LookupError", "Exception", "BaseException", "object"]), (A.c_TooFew, [A.c_TooFew, A.c_QuestionError], ["LookupError", "Exception", "BaseException", "object"]), (A.c_Busy, [A.c_Busy, A.c_QuestionError], ["LookupError", "Exception", "BaseException", "object"]), (A.c_NothingToUndo, [A.c_NothingToUndo, A.c_QuestionError], ["LookupError", "Exception", "BaseException", "object"]), (A.c_Refused, [A.c_Refused, A.c_QuestionError], ["LookupError", "Exception", "BaseException", "object"]), (A.c_SizeError, [A.c_SizeError], ["ArithmeticError", "Exception", "BaseException", "object"]), (A.c_TooMany, [A.c_TooMany, A.c_SizeError], ["ArithmeticError", "Exception", "BaseException", "object"])]
def al (A : Ad) : List PySem.Addr := [A.c_ShapeError, A.c_InvalidStep, A.c_InvalidNumber, A.c_InvalidNumbers, A.c_InvalidDigits, A.c_InvalidMoves, A.c_InvalidSigns, A.c_InvalidRule, A.c_InvalidName, A.c_InvalidWish, A.c_InvalidText, A.c_InvalidRows, A.c_InvalidSayings, A.c_InvalidGood, A.c_InvalidGuards, A.c_InvalidDeed, A.c_InvalidLine, A.c_NotASystem, A.c_NotARow, A.c_NotAWish, A.c_NotABook, A.c_NotAMachine, A.c_QuestionError, A.c_OtherSystem, A.c_OtherNames, A.c_UnknownRow, A.c_UnknownSaying, A.c_Never, A.c_Endless, A.c_TooFew, A.c_Busy, A.c_NothingToUndo, A.c_Refused, A.c_SizeError, A.c_TooMany]
def upsI : List (List Nat) := [[0], [1, 0], [2, 0], [3, 0], [4, 0], [5, 0], [6, 0], [7, 0], [8, 0], [9, 0], [10, 0], [11, 0], [12, 0], [13, 0], [14, 0], [15, 0], [16, 0], [17, 0], [18, 0], [19, 0], [20, 0], [21, 0], [22], [23, 22], [24, 22], [25, 22], [26, 22], [27, 22], [28, 22], [29, 22], [30, 22], [31, 22], [32, 22], [33], [34, 33]]
def tysI : List (List String) := [["ValueError", "Exception", "BaseException", "object"], ["ValueError", "Exception", "BaseException", "object"], ["ValueError", "Exception", "BaseException", "object"], ["ValueError", "Exception", "BaseException", "object"], ["ValueError", "Exception", "BaseException", "object"], ["ValueError", "Exception", "BaseException", "object"], ["ValueError", "Exception", "BaseException", "object"], ["ValueError", "Exception", "BaseException", "object"], ["ValueError", "Exception", "BaseException", "object"], ["ValueError", "Exception", "BaseException", "object"], ["ValueError", "Exception", "BaseException", "object"], ["ValueError", "Exception", "BaseException", "object"], ["ValueError", "Exception", "BaseException", "object"], ["ValueError", "Exception", "BaseException", "object"], ["ValueError", "Exception", "BaseException", "object"], ["ValueError", "Exception", "BaseException", "object"], ["ValueError", "Exception", "BaseException", "object"], ["ValueError", "Exception", "BaseException", "object"], ["ValueError", "Exception", "BaseException", "object"], ["ValueError", "Exception", "BaseException", "object"], ["ValueError", "Exception", "BaseException", "object"], ["ValueError", "Exception", "BaseException", "object"], ["LookupError", "Exception", "BaseException", "object"], ["LookupError", "Exception", "BaseException", "object"], ["LookupError", "Exception", "BaseException", "object"], ["LookupError", "Exception", "BaseException", "object"], ["LookupError", "Exception", "BaseException", "object"], ["LookupError", "Exception", "BaseException", "object"], ["LookupError", "Exception", "BaseException", "object"], ["LookupError", "Exception", "BaseException", "object"], ["LookupError", "Exception", "BaseException", "object"], ["LookupError", "Exception", "BaseException", "object"], ["LookupError", "Exception", "BaseException", "object"], ["ArithmeticError", "Exception", "BaseException", "object"], ["ArithmeticError", "Exception", "BaseException", "object"]]
def S_law_draw (A : Ad) : FS := sDraw
def S_law_bag (A : Ad) : FS := fun ds _ q => match ds with
  | [.scr ns, .int k] => 0 ≤ k ∧ ∀ a, q (.bag a)
  | _ => False
def S_law_right (A : Ad) : FS := fun ds _ q => match ds with
  | [.bag _] => q (.bl true)
  | _ => False
def S_law (A : Ad) : FS := sLawD
def S_law_one (A : Ad) : FS := fun ds _ q => match ds with
  | [.bag _, .lst l] => 0 < l.length ∧ l.length ≤ 1000 ∧ ∀ d ∈ l, q d
  | _ => False
/-- the places in the order in which the law asks -/
def ordI : List Nat := [1, 2, 3, 4, 5, 6, 8, 9, 10, 13, 16, 17, 18, 19, 20, 21, 7, 11, 12, 14, 15, 25, 26, 23, 24, 27, 28, 30, 31, 29, 32, 34]
def clX (A : Ad) (p : Nat) : PySem.Addr := (al A).getD (ordI.getD p 0) 0
def isP (j p : Nat) : Bool := decide (j = p)
/-- a value that can be shown, `{}` anywhere -/
def okX (k : Nat) (d : D) : Prop := ∃ p, pdX d = some p ∧ p.showable = true ∧ p.shown.length ≤ 200 ∧ p.depth ≤ k ∧ ∀ c ∈ p.shown.cps.toList, c < 1114112
def S_law_classes (A : Ad) : FS := fun ds _ q => match ds with
  | [.exc C _] => ∃ p, p < 32 ∧ C = clX A p ∧ q (.lst ((List.range 32).map fun j => .bl (isP j p)))
  | _ => False
def S_law_is (A : Ad) : FS := fun ds _ q => match ds with
  | [.exc C _, .int at_] => ∃ p : Nat, p < 32 ∧ C = clX A p ∧ at_ = p ∧ q (.bl true)
  | _ => False
def S_law_others_right (A : Ad) : FS := fun ds _ q => match ds with
  | [d, m] => okX 3 d ∧ okX 3 m ∧ q (.bl true)
  | _ => False
def plV : List Nat := [0, 1, 2, 3, 4, 5, 6, 7, 8, 9, 10, 11, 12, 13, 14, 15, 21, 22]
def plI : List Nat := [16, 17, 18, 19, 20]
def S_law_values (A : Ad) : FS := fun ds _ q => match ds with
  | [d] => q (.lst ((plV ++ plV).map fun p => .exc (clX A p) [("value", d)]))
  | _ => False
def S_law_indexes (A : Ad) : FS := fun ds _ q => match ds with
  | [d] => q (.lst ((plI ++ plI).map fun p => .exc (clX A p) [("index", d)]))
  | _ => False
end Lw
namespace Lw
open PySem L2 DL
def top (i : Nat) : Stmt := PySem.Challenge.pw_goldenrows_k12_errors_and_limits.main.body.getD i (.Pass ⟨0, 0, 0, 0⟩)
abbrev s_Refused_init : Stmt := inClass (top 33) 0
theorem sc_Refused_init : FnScope ["self", "deed", "shown"] ["self", "deed", "shown"] (defScope s_Refused_init) := ⟨rfl, rfl, rfl, by decide +kernel, rfl, by decide +kernel, by decide +kernel⟩
abbrev s_OtherSystem_init : Stmt := inClass (top 24) 0
theorem sc_OtherSystem_init : FnScope ["self", "given"] ["self", "given"] (defScope s_OtherSystem_init) := ⟨rfl, rfl, rfl, by decide +kernel, rfl, by decide +kernel, by decide +kernel⟩
abbrev s_OtherNames_init : Stmt := inClass (top 25) 0
theorem sc_OtherNames_init : FnScope ["self", "given"] ["self", "given"] (defScope s_OtherNames_init) := ⟨rfl, rfl, rfl, by decide +kernel, rfl, by decide +kernel, by decide +kernel⟩
abbrev s_TooFew_init : Stmt := inClass (top 30) 0
theorem sc_TooFew_init : FnScope ["self", "many"] ["self", "many"] (defScope s_TooFew_init) := ⟨rfl, rfl, rfl, by decide +kernel, rfl, by decide +kernel, by decide +kernel⟩
abbrev s_TooMany_init : Stmt := inClass (top 35) 0
theorem sc_TooMany_init : FnScope ["self", "limit"] ["self", "limit"] (defScope s_TooMany_init) := ⟨rfl, rfl, rfl, by decide +kernel, rfl, by decide +kernel, by decide +kernel⟩
abbrev s_law_classes : Stmt := top 56
theorem sc_law_classes : FnScope ["_law_e", "_law_found"] ["_law_e"] (defScope s_law_classes) := ⟨rfl, rfl, rfl, by decide +kernel, rfl, by decide +kernel, by decide +kernel⟩
abbrev s_law_is : Stmt := top 57
theorem sc_law_is : FnScope ["_law_e", "_law_at", "_law_found", "_law_bases", "_law_above", "_law_due"] ["_law_e", "_law_at"] (defScope s_law_is) := ⟨rfl, rfl, rfl, by decide +kernel, rfl, by decide +kernel, by decide +kernel⟩
abbrev s_law_others_right : Stmt := top 58
theorem sc_law_others_right : FnScope ["_law_thing", "_law_mate", "_law_deeds", "_law_e", "_law_some", "_law_bare"] ["_law_thing", "_law_mate"] (defScope s_law_others_right) := ⟨rfl, rfl, rfl, by decide +kernel, rfl, by decide +kernel, by decide +kernel⟩
abbrev s_law_draw : Stmt := top 52
theorem sc_law_draw : FnScope ["_law_bag_here", "_law_wide", "_law_figure", "_law_held"] ["_law_bag_here", "_law_wide"] (defScope s_law_draw) := ⟨rfl, rfl, rfl, by decide +kernel, rfl, by decide +kernel, by decide +kernel⟩
abbrev s_law_one : Stmt := top 53
theorem sc_law_one : FnScope ["_law_bag_here", "_law_some"] ["_law_bag_here", "_law_some"] (defScope s_law_one) := ⟨rfl, rfl, rfl, by decide +kernel, rfl, by decide +kernel, by decide +kernel⟩
abbrev s_InvalidStep_init : Stmt := inClass (top 2) 0
theorem sc_InvalidStep_init : FnScope ["self", "value"] ["self", "value"] (defScope s_InvalidStep_init) := ⟨rfl, rfl, rfl, by decide +kernel, rfl, by decide +kernel, by decide +kernel⟩
abbrev s_InvalidNumber_init : Stmt := inClass (top 3) 0
theorem sc_InvalidNumber_init : FnScope ["self", "value"] ["self", "value"] (defScope s_InvalidNumber_init) := ⟨rfl, rfl, rfl, by decide +kernel, rfl, by decide +kernel, by decide +kernel⟩
abbrev s_InvalidNumbers_init : Stmt := inClass (top 4) 0
theorem sc_InvalidNumbers_init : FnScope ["self", "value"] ["self", "value"] (defScope s_InvalidNumbers_init) := ⟨rfl, rfl, rfl, by decide +kernel, rfl, by decide +kernel, by decide +kernel⟩
abbrev s_InvalidDigits_init : Stmt := inClass (top 5) 0
theorem sc_InvalidDigits_init : FnScope ["self", "value"] ["self", "value"] (defScope s_InvalidDigits_init) := ⟨rfl, rfl, rfl, by decide +kernel, rfl, by decide +kernel, by decide +kernel⟩
abbrev s_InvalidMoves_init : Stmt := inClass (top 6) 0
theorem sc_InvalidMoves_init : FnScope ["self", "value"] ["self", "value"] (defScope s_InvalidMoves_init) := ⟨rfl, rfl, rfl, by decide +kernel, rfl, by decide +kernel, by decide +kernel⟩
abbrev s_InvalidSigns_init : Stmt := inClass (top 7) 0
theorem sc_InvalidSigns_init : FnScope ["self", "value"] ["self", "value"] (defScope s_InvalidSigns_init) := ⟨rfl, rfl, rfl, by decide +kernel, rfl, by decide +kernel, by decide +kernel⟩
abbrev s_InvalidName_init : Stmt := inClass (top 9) 0
theorem sc_InvalidName_init : FnScope ["self", "value"] ["self", "value"] (defScope s_InvalidName_init) := ⟨rfl, rfl, rfl, by decide +kernel, rfl, by decide +kernel, by decide +kernel⟩
abbrev s_InvalidWish_init : Stmt := inClass (top 10) 0
theorem sc_InvalidWish_init : FnScope ["self", "value"] ["self", "value"] (defScope s_InvalidWish_init) := ⟨rfl, rfl, rfl, by decide +kernel, rfl, by decide +kernel, by decide +kernel⟩
abbrev s_InvalidText_init : Stmt := inClass (top 11) 0
theorem sc_InvalidText_init : FnScope ["self", "value"] ["self", "value"] (defScope s_InvalidText_init) := ⟨rfl, rfl, rfl, by decide +kernel, rfl, by decide +kernel, by decide +kernel⟩
abbrev s_InvalidGood_init : Stmt := inClass (top 14) 0
theorem sc_InvalidGood_init : FnScope ["self", "value"] ["self", "value"] (defScope s_InvalidGood_init) := ⟨rfl, rfl, rfl, by decide +kernel, rfl, by decide +kernel, by decide +kernel⟩
abbrev s_InvalidLine_init : Stmt := inClass (top 17) 0
theorem sc_InvalidLine_init : FnScope ["self", "value"] ["self", "value"] (defScope s_InvalidLine_init) := ⟨rfl, rfl, rfl, by decide +kernel, rfl, by decide +kernel, by decide +kernel⟩
abbrev s_NotASystem_init : Stmt := inClass (top 18) 0
theorem sc_NotASystem_init : FnScope ["self", "value"] ["self", "value"] (defScope s_NotASystem_init) := ⟨rfl, rfl, rfl, by decide +kernel, rfl, by decide +kernel, by decide +kernel⟩
abbrev s_NotARow_init : Stmt := inClass (top 19) 0
theorem sc_NotARow_init : FnScope ["self", "value"] ["self", "value"] (defScope s_NotARow_init) := ⟨rfl, rfl, rfl, by decide +kernel, rfl, by decide +kernel, by decide +kernel⟩
abbrev s_NotAWish_init : Stmt := inClass (top 20) 0
theorem sc_NotAWish_init : FnScope ["self", "value"] ["self", "value"] (defScope s_NotAWish_init) := ⟨rfl, rfl, rfl, by decide +kernel, rfl, by decide +kernel, by decide +kernel⟩
abbrev s_NotABook_init : Stmt := inClass (top 21) 0
theorem sc_NotABook_init : FnScope ["self", "value"] ["self", "value"] (defScope s_NotABook_init) := ⟨rfl, rfl, rfl, by decide +kernel, rfl, by decide +kernel, by decide +kernel⟩
abbrev s_NotAMachine_init : Stmt := inClass (top 22) 0
theorem sc_NotAMachine_init : FnScope ["self", "value"] ["self", "value"] (defScope s_NotAMachine_init) := ⟨rfl, rfl, rfl, by decide +kernel, rfl, by decide +kernel, by decide +kernel⟩
abbrev s_UnknownRow_init : Stmt := inClass (top 26) 0
theorem sc_UnknownRow_init : FnScope ["self", "value"] ["self", "value"] (defScope s_UnknownRow_init) := ⟨rfl, rfl, rfl, by decide +kernel, rfl, by decide +kernel, by decide +kernel⟩
abbrev s_UnknownSaying_init : Stmt := inClass (top 27) 0
theorem sc_UnknownSaying_init : FnScope ["self", "value"] ["self", "value"] (defScope s_UnknownSaying_init) := ⟨rfl, rfl, rfl, by decide +kernel, rfl, by decide +kernel, by decide +kernel⟩
abbrev s_law_values : Stmt := top 54
theorem sc_law_values : FnScope ["_law_thing", "_law_found"] ["_law_thing"] (defScope s_law_values) := ⟨rfl, rfl, rfl, by decide +kernel, rfl, by decide +kernel, by decide +kernel⟩
abbrev s_InvalidRule_init : Stmt := inClass (top 8) 0
theorem sc_InvalidRule_init : FnScope ["self", "index"] ["self", "index"] (defScope s_InvalidRule_init) := ⟨rfl, rfl, rfl, by decide +kernel, rfl, by decide +kernel, by decide +kernel⟩
abbrev s_InvalidRows_init : Stmt := inClass (top 12) 0
theorem sc_InvalidRows_init : FnScope ["self", "index"] ["self", "index"] (defScope s_InvalidRows_init) := ⟨rfl, rfl, rfl, by decide +kernel, rfl, by decide +kernel, by decide +kernel⟩
abbrev s_InvalidSayings_init : Stmt := inClass (top 13) 0
theorem sc_InvalidSayings_init : FnScope ["self", "index"] ["self", "index"] (defScope s_InvalidSayings_init) := ⟨rfl, rfl, rfl, by decide +kernel, rfl, by decide +kernel, by decide +kernel⟩
abbrev s_InvalidGuards_init : Stmt := inClass (top 15) 0
theorem sc_InvalidGuards_init : FnScope ["self", "index"] ["self", "index"] (defScope s_InvalidGuards_init) := ⟨rfl, rfl, rfl, by decide +kernel, rfl, by decide +kernel, by decide +kernel⟩
abbrev s_InvalidDeed_init : Stmt := inClass (top 16) 0
theorem sc_InvalidDeed_init : FnScope ["self", "index"] ["self", "index"] (defScope s_InvalidDeed_init) := ⟨rfl, rfl, rfl, by decide +kernel, rfl, by decide +kernel, by decide +kernel⟩
abbrev s_law_indexes : Stmt := top 55
theorem sc_law_indexes : FnScope ["_law_thing", "_law_found"] ["_law_thing"] (defScope s_law_indexes) := ⟨rfl, rfl, rfl, by decide +kernel, rfl, by decide +kernel, by decide +kernel⟩
abbrev s_law_right : Stmt := top 59
theorem sc_law_right : FnScope ["_law_bag_here", "_law_things", "_law_thing", "_law_mate", "_law_found", "_law_places", "_law_k"] ["_law_bag_here"] (defScope s_law_right) := ⟨rfl, rfl, rfl, by decide +kernel, rfl, by decide +kernel, by decide +kernel⟩
abbrev s_law_bag : Stmt := top 51
theorem sc_law_bag : FnScope ["_law_cells", "_law_k", "_law_cell", "_law_seed", "_law_this", "_law_figures"] ["_law_cells", "_law_k"] (defScope s_law_bag) := ⟨rfl, rfl, rfl, by decide +kernel, rfl, by decide +kernel, by decide +kernel⟩
abbrev s_law : Stmt := top 60
theorem sc_law : FnScope ["_law_cells", "_law_limits", "_law_k"] ["_law_cells"] (defScope s_law) := ⟨rfl, rfl, rfl, by decide +kernel, rfl, by decide +kernel, by decide +kernel⟩
def w_law_classes (A : Ad) : WS :=
    (sSeq (sAsg 1 (wFz (wLstO (wCons (wIsX (fun C => isEO (ec A) C A.c_InvalidStep) (wVar 0)) (wCons (wIsX (fun C => isEO (ec A) C A.c_InvalidNumber) (wVar 0)) (wCons (wIsX (fun C => isEO (ec A) C A.c_InvalidNumbers) (wVar 0)) wNil))))))
    (sSeq (sAsg 1 (w2 dAdd (wVar 1) (wFz (wLstO (wCons (wIsX (fun C => isEO (ec A) C A.c_InvalidDigits) (wVar 0)) (wCons (wIsX (fun C => isEO (ec A) C A.c_InvalidMoves) (wVar 0)) wNil))))))
    (sSeq (sAsg 1 (w2 dAdd (wVar 1) (wFz (wLstO (wCons (wIsX (fun C => isEO (ec A) C A.c_InvalidSigns) (wVar 0)) (wCons (wIsX (fun C => isEO (ec A) C A.c_InvalidName) (wVar 0)) wNil))))))
    (sSeq (sAsg 1 (w2 dAdd (wVar 1) (wFz (wLstO (wCons (wIsX (fun C => isEO (ec A) C A.c_InvalidWish) (wVar 0)) (wCons (wIsX (fun C => isEO (ec A) C A.c_InvalidText) (wVar 0)) wNil))))))
    (sSeq (sAsg 1 (w2 dAdd (wVar 1) (wFz (wLstO (wCons (wIsX (fun C => isEO (ec A) C A.c_InvalidGood) (wVar 0)) (wCons (wIsX (fun C => isEO (ec A) C A.c_InvalidLine) (wVar 0)) wNil))))))
    (sSeq (sAsg 1 (w2 dAdd (wVar 1) (wFz (wLstO (wCons (wIsX (fun C => isEO (ec A) C A.c_NotASystem) (wVar 0)) (wCons (wIsX (fun C => isEO (ec A) C A.c_NotARow) (wVar 0)) (wCons (wIsX (fun C => isEO (ec A) C A.c_NotAWish) (wVar 0)) wNil)))))))
    (sSeq (sAsg 1 (w2 dAdd (wVar 1) (wFz (wLstO (wCons (wIsX (fun C => isEO (ec A) C A.c_NotABook) (wVar 0)) (wCons (wIsX (fun C => isEO (ec A) C A.c_NotAMachine) (wVar 0)) (wCons (wIsX (fun C => isEO (ec A) C A.c_InvalidRule) (wVar 0)) wNil)))))))
    (sSeq (sAsg 1 (w2 dAdd (wVar 1) (wFz (wLstO (wCons (wIsX (fun C => isEO (ec A) C A.c_InvalidRows) (wVar 0)) (wCons (wIsX (fun C => isEO (ec A) C A.c_InvalidSayings) (wVar 0)) wNil))))))
    (sSeq (sAsg 1 (w2 dAdd (wVar 1) (wFz (wLstO (wCons (wIsX (fun C => isEO (ec A) C A.c_InvalidGuards) (wVar 0)) (wCons (wIsX (fun C => isEO (ec A) C A.c_InvalidDeed) (wVar 0)) wNil))))))
    (sSeq (sAsg 1 (w2 dAdd (wVar 1) (wFz (wLstO (wCons (wIsX (fun C => isEO (ec A) C A.c_UnknownRow) (wVar 0)) (wCons (wIsX (fun C => isEO (ec A) C A.c_UnknownSaying) (wVar 0)) wNil))))))
    (sSeq (sAsg 1 (w2 dAdd (wVar 1) (wFz (wLstO (wCons (wIsX (fun C => isEO (ec A) C A.c_OtherSystem) (wVar 0)) (wCons (wIsX (fun C => isEO (ec A) C A.c_OtherNames) (wVar 0)) (wCons (wIsX (fun C => isEO (ec A) C A.c_Never) (wVar 0)) wNil)))))))
    (sSeq (sAsg 1 (w2 dAdd (wVar 1) (wFz (wLstO (wCons (wIsX (fun C => isEO (ec A) C A.c_Endless) (wVar 0)) (wCons (wIsX (fun C => isEO (ec A) C A.c_Busy) (wVar 0)) (wCons (wIsX (fun C => isEO (ec A) C A.c_NothingToUndo) (wVar 0)) wNil)))))))
    (sSeq (sAsg 1 (w2 dAdd (wVar 1) (wFz (wLstO (wCons (wIsX (fun C => isEO (ec A) C A.c_TooFew) (wVar 0)) (wCons (wIsX (fun C => isEO (ec A) C A.c_Refused) (wVar 0)) (wCons (wIsX (fun C => isEO (ec A) C A.c_TooMany) (wVar 0)) wNil)))))))
    (sRet (wVar 1)))))))))))))))
def w_law_is (A : Ad) : WS :=
    (sSeq (sAsg 2 (wCall0 1 (S_law_classes A) [] (wCons (wVar 0) wNil)))
    (sSeq (sAsg 3 (wFz (wLstO (wCons (wIsX (fun C => isEO (ec A) C A.c_ShapeError) (wVar 0)) (wCons (wIsX (fun C => isEO (ec A) C A.c_QuestionError) (wVar 0)) (wCons (wIsX (fun C => isEO (ec A) C A.c_SizeError) (wVar 0)) wNil))))))
    (sSeq (sAsg 4 (wFz (wLstO (wCons (wIsX (fun C => isET (ec A) C "ValueError") (wVar 0)) (wCons (wIsX (fun C => isET (ec A) C "LookupError") (wVar 0)) (wCons (wIsX (fun C => isET (ec A) C "ArithmeticError") (wVar 0)) wNil))))))
    (sSeq (sAsg 5 (wFz (wLstO (wCons (w2 dLt (wVar 1) (wC (.int 21))) (wCons (wChain dLt dLt (wC (.int 20)) (wVar 1) (wC (.int 31))) (wCons (w2 dEq (wVar 1) (wC (.int 31))) wNil))))))
    (sRet (wAnd (w2 dEq (wCntB (wLk (wVar 2))) (wC (.int 1))) (wAnd (w2 dEq (wIndexB (wLk (wVar 2))) (wVar 1)) (wAnd (w2 dEq (wVar 3) (wVar 5)) (w2 dEq (wVar 4) (wVar 5))))))))))
def w_law_others_right (A : Ad) : WS :=
    (sSeq (sAsg 2 (wFz (wLstO (wCons (wMkX2 A.c_Refused "deed" "shown" (wCons (wVar 0) (wCons (wVar 1) wNil))) (wCons (wMkX2K A.c_Refused "deed" "shown" (wCons (wVar 1) (wCons (wVar 0) wNil))) wNil)))))
    (sSeq (sIf (wB (w2 dNe (wFz (wLc (iLst (wVar 2)) (gVar 3) (tyOr (wB (w2 dNe (wCB dReprN (wCons (wFz (wLstO (wCons (wXfX (ec A) "deed" (wVar 3)) (wCons (wXfX (ec A) "shown" (wVar 3)) wNil)))) wNil)) (wCB dReprN (wCons (wFz (wLstO (wCons (wVar 0) (wCons (wVar 1) wNil)))) wNil)))) (tyNot (wB (wCall0 2 (S_law_is A) [] (wCons (wVar 3) (wCons (wC (.int 30)) wNil)))))) (wVar 3) [3])) (wFz (wLstO wNil)))) (sRet (wC (.bl false))) sNext)
    (sSeq (sAsg 4 (wFz (wLstO (wCons (wMkX A.c_OtherSystem "given" (wCons (wVar 0) wNil)) (wCons (wMkXK A.c_OtherSystem "given" (wCons (wVar 0) wNil)) wNil)))))
    (sSeq (sIf (wB (w2 dNe (wFz (wLc (iLst (wVar 4)) (gVar 3) (tyOr (wB (w2 dNe (wCB dReprN (wCons (wXfX (ec A) "given" (wVar 3)) wNil)) (wCB dReprN (wCons (wVar 0) wNil)))) (tyNot (wB (wCall0 2 (S_law_is A) [] (wCons (wVar 3) (wCons (wC (.int 23)) wNil)))))) (wVar 3) [3])) (wFz (wLstO wNil)))) (sRet (wC (.bl false))) sNext)
    (sSeq (sAsg 4 (wFz (wLstO (wCons (wMkX A.c_OtherNames "given" (wCons (wVar 0) wNil)) (wCons (wMkXK A.c_OtherNames "given" (wCons (wVar 0) wNil)) wNil)))))
    (sSeq (sIf (wB (w2 dNe (wFz (wLc (iLst (wVar 4)) (gVar 3) (tyOr (wB (w2 dNe (wCB dReprN (wCons (wXfX (ec A) "given" (wVar 3)) wNil)) (wCB dReprN (wCons (wVar 0) wNil)))) (tyNot (wB (wCall0 2 (S_law_is A) [] (wCons (wVar 3) (wCons (wC (.int 24)) wNil)))))) (wVar 3) [3])) (wFz (wLstO wNil)))) (sRet (wC (.bl false))) sNext)
    (sSeq (sAsg 4 (wFz (wLstO (wCons (wMkX A.c_TooFew "many" (wCons (wVar 0) wNil)) (wCons (wMkXK A.c_TooFew "many" (wCons (wVar 0) wNil)) wNil)))))
    (sSeq (sIf (wB (w2 dNe (wFz (wLc (iLst (wVar 4)) (gVar 3) (tyOr (wB (w2 dNe (wCB dReprN (wCons (wXfX (ec A) "many" (wVar 3)) wNil)) (wCB dReprN (wCons (wVar 0) wNil)))) (tyNot (wB (wCall0 2 (S_law_is A) [] (wCons (wVar 3) (wCons (wC (.int 29)) wNil)))))) (wVar 3) [3])) (wFz (wLstO wNil)))) (sRet (wC (.bl false))) sNext)
    (sSeq (sAsg 4 (wFz (wLstO (wCons (wMkX A.c_TooMany "limit" (wCons (wVar 0) wNil)) (wCons (wMkXK A.c_TooMany "limit" (wCons (wVar 0) wNil)) wNil)))))
    (sSeq (sIf (wB (w2 dNe (wFz (wLc (iLst (wVar 4)) (gVar 3) (tyOr (wB (w2 dNe (wCB dReprN (wCons (wXfX (ec A) "limit" (wVar 3)) wNil)) (wCB dReprN (wCons (wVar 0) wNil)))) (tyNot (wB (wCall0 2 (S_law_is A) [] (wCons (wVar 3) (wCons (wC (.int 31)) wNil)))))) (wVar 3) [3])) (wFz (wLstO wNil)))) (sRet (wC (.bl false))) sNext)
    (sSeq (sAsg 5 (wFz (wLstO (wCons (wCall0 2 (S_law_is A) [] (wCons (wMkX0 A.c_Never) (wCons (wC (.int 25)) wNil))) (wCons (wCall0 2 (S_law_is A) [] (wCons (wMkX0 A.c_Endless) (wCons (wC (.int 26)) wNil))) wNil)))))
    (sRet (w2 dEq (w2 dAdd (wVar 5) (wFz (wLstO (wCons (wCall0 2 (S_law_is A) [] (wCons (wMkX0 A.c_Busy) (wCons (wC (.int 27)) wNil))) (wCons (wCall0 2 (S_law_is A) [] (wCons (wMkX0 A.c_NothingToUndo) (wCons (wC (.int 28)) wNil))) wNil))))) (w2 dMulT (wFz (wLstO (wCons (wC (.bl true)) wNil))) (wC (.int 4))))))))))))))))
def w_law_one (A : Ad) : WS :=
    (sRet (w2 dIx (wVar 1) (wCall0 2 (S_law_draw A) [] (wCons (wVar 0) (wCons (wCB dLen (wCons (wVar 1) wNil)) wNil)))))
def w_law_values (A : Ad) : WS :=
    (sSeq (sAsg 1 (wFz (wLstO (wCons (wMkX A.c_InvalidStep "value" (wCons (wVar 0) wNil)) (wCons (wMkX A.c_InvalidNumber "value" (wCons (wVar 0) wNil)) (wCons (wMkX A.c_InvalidNumbers "value" (wCons (wVar 0) wNil)) (wCons (wMkX A.c_InvalidDigits "value" (wCons (wVar 0) wNil)) wNil)))))))
    (sSeq (sAsg 1 (w2 dAdd (wVar 1) (wFz (wLstO (wCons (wMkX A.c_InvalidMoves "value" (wCons (wVar 0) wNil)) (wCons (wMkX A.c_InvalidSigns "value" (wCons (wVar 0) wNil)) (wCons (wMkX A.c_InvalidName "value" (wCons (wVar 0) wNil)) wNil)))))))
    (sSeq (sAsg 1 (w2 dAdd (wVar 1) (wFz (wLstO (wCons (wMkX A.c_InvalidWish "value" (wCons (wVar 0) wNil)) (wCons (wMkX A.c_InvalidText "value" (wCons (wVar 0) wNil)) (wCons (wMkX A.c_InvalidGood "value" (wCons (wVar 0) wNil)) (wCons (wMkX A.c_InvalidLine "value" (wCons (wVar 0) wNil)) wNil))))))))
    (sSeq (sAsg 1 (w2 dAdd (wVar 1) (wFz (wLstO (wCons (wMkX A.c_NotASystem "value" (wCons (wVar 0) wNil)) (wCons (wMkX A.c_NotARow "value" (wCons (wVar 0) wNil)) (wCons (wMkX A.c_NotAWish "value" (wCons (wVar 0) wNil)) (wCons (wMkX A.c_NotABook "value" (wCons (wVar 0) wNil)) wNil))))))))
    (sSeq (sAsg 1 (w2 dAdd (wVar 1) (wFz (wLstO (wCons (wMkX A.c_NotAMachine "value" (wCons (wVar 0) wNil)) (wCons (wMkX A.c_UnknownRow "value" (wCons (wVar 0) wNil)) (wCons (wMkX A.c_UnknownSaying "value" (wCons (wVar 0) wNil)) wNil)))))))
    (sSeq (sAsg 1 (w2 dAdd (wVar 1) (wFz (wLstO (wCons (wMkXK A.c_InvalidStep "value" (wCons (wVar 0) wNil)) (wCons (wMkXK A.c_InvalidNumber "value" (wCons (wVar 0) wNil)) wNil))))))
    (sSeq (sAsg 1 (w2 dAdd (wVar 1) (wFz (wLstO (wCons (wMkXK A.c_InvalidNumbers "value" (wCons (wVar 0) wNil)) (wCons (wMkXK A.c_InvalidDigits "value" (wCons (wVar 0) wNil)) wNil))))))
    (sSeq (sAsg 1 (w2 dAdd (wVar 1) (wFz (wLstO (wCons (wMkXK A.c_InvalidMoves "value" (wCons (wVar 0) wNil)) (wCons (wMkXK A.c_InvalidSigns "value" (wCons (wVar 0) wNil)) (wCons (wMkXK A.c_InvalidName "value" (wCons (wVar 0) wNil)) wNil)))))))
    (sSeq (sAsg 1 (w2 dAdd (wVar 1) (wFz (wLstO (wCons (wMkXK A.c_InvalidWish "value" (wCons (wVar 0) wNil)) (wCons (wMkXK A.c_InvalidText "value" (wCons (wVar 0) wNil)) (wCons (wMkXK A.c_InvalidGood "value" (wCons (wVar 0) wNil)) wNil)))))))
    (sSeq (sAsg 1 (w2 dAdd (wVar 1) (wFz (wLstO (wCons (wMkXK A.c_InvalidLine "value" (wCons (wVar 0) wNil)) (wCons (wMkXK A.c_NotASystem "value" (wCons (wVar 0) wNil)) (wCons (wMkXK A.c_NotARow "value" (wCons (wVar 0) wNil)) wNil)))))))
    (sSeq (sAsg 1 (w2 dAdd (wVar 1) (wFz (wLstO (wCons (wMkXK A.c_NotAWish "value" (wCons (wVar 0) wNil)) (wCons (wMkXK A.c_NotABook "value" (wCons (wVar 0) wNil)) (wCons (wMkXK A.c_NotAMachine "value" (wCons (wVar 0) wNil)) wNil)))))))
    (sSeq (sAsg 1 (w2 dAdd (wVar 1) (wFz (wLstO (wCons (wMkXK A.c_UnknownRow "value" (wCons (wVar 0) wNil)) (wCons (wMkXK A.c_UnknownSaying "value" (wCons (wVar 0) wNil)) wNil))))))
    (sRet (wVar 1))))))))))))))
def w_law_indexes (A : Ad) : WS :=
    (sSeq (sAsg 1 (wFz (wLstO (wCons (wMkX A.c_InvalidRule "index" (wCons (wVar 0) wNil)) (wCons (wMkX A.c_InvalidRows "index" (wCons (wVar 0) wNil)) (wCons (wMkX A.c_InvalidSayings "index" (wCons (wVar 0) wNil)) (wCons (wMkX A.c_InvalidGuards "index" (wCons (wVar 0) wNil)) wNil)))))))
    (sSeq (sAsg 1 (w2 dAdd (wVar 1) (wFz (wLstO (wCons (wMkX A.c_InvalidDeed "index" (wCons (wVar 0) wNil)) (wCons (wMkXK A.c_InvalidRule "index" (wCons (wVar 0) wNil)) (wCons (wMkXK A.c_InvalidRows "index" (wCons (wVar 0) wNil)) wNil)))))))
    (sSeq (sAsg 1 (w2 dAdd (wVar 1) (wFz (wLstO (wCons (wMkXK A.c_InvalidSayings "index" (wCons (wVar 0) wNil)) (wCons (wMkXK A.c_InvalidGuards "index" (wCons (wVar 0) wNil)) wNil))))))
    (sSeq (sAsg 1 (w2 dAdd (wVar 1) (wFz (wLstO (wCons (wMkXK A.c_InvalidDeed "index" (wCons (wVar 0) wNil)) wNil)))))
    (sRet (wVar 1))))))
def lb_law_right_1 (A : Ad) : WS :=
    (sIf (tyOr (wB (w2 dNe (wCB dReprN (wCons (wXfX (ec A) "value" (w2 dIx (wVar 4) (wVar 6))) wNil)) (wCB dReprN (wCons (wVar 2) wNil)))) (tyNot (wB (wCall0 2 (S_law_is A) [] (wCons (w2 dIx (wVar 4) (wVar 6)) (wCons (w2 dIx (w2 dAdd (wVar 5) (wVar 5)) (wVar 6)) wNil)))))) (sRet (wC (.bl false))) sNext)
def lb_law_right_2 (A : Ad) : WS :=
    (sIf (tyOr (wB (w2 dNe (wCB dReprN (wCons (wXfX (ec A) "index" (w2 dIx (wVar 4) (wVar 6))) wNil)) (wCB dReprN (wCons (wVar 2) wNil)))) (tyNot (wB (wCall0 2 (S_law_is A) [] (wCons (w2 dIx (wVar 4) (wVar 6)) (wCons (w2 dIx (w2 dAdd (wVar 5) (wVar 5)) (wVar 6)) wNil)))))) (sRet (wC (.bl false))) sNext)
def w_law_right (A : Ad) : WS :=
    (sSeq (sAsg 1 (wFz (wLstO (wCons (w2 dAdd (w2 dPow (wC (.int 10)) (wC (.int 39))) (wC (.int 7))) (wCons (wC .non) (wCons (wC (.str "x")) (wCons (wTup (wCons (wC (.int 1)) (wCons (wC (.str "a")) wNil))) (wCons (wFz (wLstO (wCons (wC (.int 2)) wNil))) (wCons (wFzD nDict) (wCons (wC (.bl true)) (wCons (w1 dNeg (wC (.int 5))) (wCons (wTup (wCons (wC (.str "ab")) (wCons (wTup wNil) wNil))) (wCons (wC (.str "")) wNil)))))))))))))
    (sSeq (sPar 2 3 (wCall0 2 (S_law_one A) [] (wCons (wVar 0) (wCons (wVar 1) wNil))) (wCall0 2 (S_law_one A) [] (wCons (wVar 0) (wCons (wVar 1) wNil))))
    (sSeq (sPar 4 5 (wCall0 1 (S_law_values A) [] (wCons (wVar 2) wNil)) (wFz (wLstO (wCons (wC (.int 0)) (wCons (wC (.int 1)) (wCons (wC (.int 2)) (wCons (wC (.int 3)) (wCons (wC (.int 4)) (wCons (wC (.int 5)) (wCons (wC (.int 6)) (wCons (wC (.int 7)) (wCons (wC (.int 8)) (wCons (wC (.int 9)) (wCons (wC (.int 10)) (wCons (wC (.int 11)) (wCons (wC (.int 12)) (wCons (wC (.int 13)) (wCons (wC (.int 14)) (wCons (wC (.int 15)) (wCons (wC (.int 21)) (wCons (wC (.int 22)) wNil)))))))))))))))))))))
    (sSeq (sFor (iRg1 (wCons (wC (.int 36)) wNil)) (gVar 6) (lb_law_right_1 A))
    (sSeq (sPar 4 5 (wCall0 1 (S_law_indexes A) [] (wCons (wVar 2) wNil)) (wFz (wLstO (wCons (wC (.int 16)) (wCons (wC (.int 17)) (wCons (wC (.int 18)) (wCons (wC (.int 19)) (wCons (wC (.int 20)) wNil))))))))
    (sSeq (sFor (iRg1 (wCons (wC (.int 10)) wNil)) (gVar 6) (lb_law_right_2 A))
    (sRet (wCall0 2 (S_law_others_right A) [] (wCons (wVar 2) (wCons (wVar 3) wNil))))))))))
def lb_law_bag_1 (A : Ad) : WS :=
    (sAsg 3 (w2 dMod (wCB dInt (wCons (w2 dAdd (w2 dAdd (w2 dMulT (wVar 3) (wC (.int 29501))) (w2 dMod (wCB dInt (wCons (wVar 4) wNil)) (wC (.int 1000033)))) (w2 dMulT (wC (.int 11)) (wVar 1))) wNil)) (wC (.int 2147483587))))
def w_law_bag (A : Ad) : WS :=
    (sSeq (sPar 2 3 (wIf (wB (w2 dLt (wVar 1) (wCB dLen (wCons (wVar 0) wNil)))) (wCB dInt (wCons (w2 dIx (wVar 0) (wVar 1)) wNil)) (wC (.int 0))) (w2 dMulT (wC (.int 70001)) (w2 dAdd (wVar 1) (wC (.int 5)))))
    (sSeq (sFor (iLst (wSl (wVar 0) wNoP (wPart (wC (.int 7))))) (gVar 4) (lb_law_bag_1 A))
    (sSeq (sAsg 5 (wIf (tyOr (wB (w2 dLt (wVar 2) (wC (.int 0)))) (wB (w2 dGe (wVar 2) (w2 dPow (wC (.int 10)) (wC (.int 15)))))) (wCB dAbs (wCons (wVar 2) wNil)) (wC (.int 0))))
    (sRet (wBag (wLstO (wCons (wVar 5) (wCons (w2 dMod (wCB dInt (wCons (w2 dAdd (wVar 3) (w2 dMulT (wC (.int 40487)) (w2 dMod (wCB dInt (wCons (wVar 2) wNil)) (wC (.int 999961))))) wNil)) (wC (.int 2147483587))) (wCons (wC (.int 0)) wNil)))))))))
def w_law (A : Ad) : WS :=
    (sSeq (sAsg 1 (wFz (wLstO (wCons (wC (.int 3)) (wCons (wC (.int 8)) (wCons (wC (.int 4)) (wCons (wC (.int 12)) (wCons (wC (.int 4)) (wCons (wC (.int 4)) (wCons (wC (.int 20)) wNil))))))))))
    (sSeq (sAsg 1 (w2 dAdd (wVar 1) (wFz (wLstO (wCons (wC (.int 6)) (wCons (wC (.int 8)) (wCons (wC (.int 60)) (wCons (wC (.int 10000)) (wCons (wC (.int 10000000000000000000000000000000000000000)) (wCons (wC (.int 2000)) (wCons (wC (.int 100)) wNil)))))))))))
    (sSeq (sIf (wB (w2 dNe (wCB dReprN (wCons (wVar 1) wNil)) (wCB dReprN (wCons (wFz (wLstO (wCons (wC (.int 3)) (wCons (wC (.int 8)) (wCons (wC (.int 4)) (wCons (wC (.int 12)) (wCons (wC (.int 4)) (wCons (wC (.int 4)) (wCons (wC (.int 20)) (wCons (wC (.int 6)) (wCons (wC (.int 8)) (wCons (wC (.int 60)) (wCons (wC (.int 10000)) (wCons (w2 dPow (wC (.int 10)) (wC (.int 40))) (wCons (wC (.int 2000)) (wCons (wC (.int 100)) wNil)))))))))))))))) wNil)))) (sRet (wC (.bl false))) sNext)
    (sRet (wCBL lAll (wLc (iRg1 (wCons (wCB dMax2 (wCons (wC (.int 2)) (wCons (wCB dMin2 (wCons (wCB dLen (wCons (wVar 0) wNil)) (wCons (wC (.int 6)) wNil))) wNil))) wNil)) (gVar 2) wYes (wCall0 1 (S_law_right A) [] (wCons (wCall0 2 (S_law_bag A) [] (wCons (wVar 0) (wCons (wVar 2) wNil))) wNil)) [2]))))))
end Lw
namespace Lw
end Lw
namespace Lw
open PySem L2 DL
variable [Tbl]
theorem sz_line : PySem.sizeLine = 16777216 := rfl
/-! ### which class an error is of -/
theorem al_len (A : Ad) : (al A).length = 35 := rfl
theorem al_inj (A : Ad) {i j : Nat} (hi : i < 35) (hj : j < 35) (h : (al A).getD i 0 = (al A).getD j 0) : i = j := by
  have g : ∀ (i : Nat) (h : i < (al A).length), (al A).getD i 0 = (al A)[i] := fun i h => by
    rw [List.getD_eq_getElem?_getD, List.getElem?_eq_getElem h]
    rfl
  rw [g i (by rw [al_len]; exact hi), g j (by rw [al_len]; exact hj)] at h
  have pw := List.pairwise_iff_getElem.mp (show (al A).Nodup from A.ne)
  rcases Nat.lt_trichotomy i j with z | z | z
  · exact absurd h (pw i j hi hj z)
  · exact z
  · exact absurd h.symm (pw j i hj hi z)
theorem look_map {β : Type} {f : Nat → PySem.Addr} {g : Nat → β} {i : Nat} : ∀ {l : List Nat}, (∀ j ∈ l, f j = f i → j = i) → i ∈ l → (l.map fun j => (f j, g j)).lookup (f i) = some (g i)
  | [], _, h => by cases h
  | j :: l, h1, h2 => by
    rw [List.map_cons, List.lookup_cons]
    by_cases e : f i = f j
    · rw [beq_iff_eq.mpr e]
      have := h1 j List.mem_cons_self e.symm
      subst this
      rfl
    · rw [beq_eq_false_iff_ne.mpr e]
      refine look_map (fun k hk => h1 k (List.mem_cons_of_mem _ hk)) ?_
      rcases List.mem_cons.mp h2 with rfl | h2
      · exact absurd rfl e
      · exact h2
theorem ec_map (A : Ad) : ec A = (List.range 35).map fun i => ((al A).getD i 0, (upsI.getD i []).map (fun j => (al A).getD j 0), tysI.getD i []) := rfl
theorem ec_look (A : Ad) {i : Nat} (hi : i < 35) : (ec A).lookup ((al A).getD i 0) = some ((upsI.getD i []).map (fun j => (al A).getD j 0), tysI.getD i []) := by
  rw [ec_map]
  exact look_map (f := fun i => (al A).getD i 0) (g := fun i => ((upsI.getD i []).map (fun j => (al A).getD j 0), tysI.getD i [])) (fun j hj e => al_inj A (List.mem_range.mp hj) hi e) (List.mem_range.mpr hi)
theorem has_map (A : Ad) {j : Nat} (hj : j < 35) : ∀ {l : List Nat}, (∀ k ∈ l, k < 35) → (l.map (fun j => (al A).getD j 0)).contains ((al A).getD j 0) = l.contains j
  | [], _ => rfl
  | k :: l, h => by
    rw [List.map_cons, List.contains_cons, List.contains_cons, has_map A hj fun k hk => h k (List.mem_cons_of_mem _ hk)]
    have e : ((al A).getD j 0 == (al A).getD k 0) = (j == k) := by
      by_cases e : j = k
      · subst e
        rw [beq_self_eq_true, beq_self_eq_true]
      · rw [beq_eq_false_iff_ne.mpr e, beq_eq_false_iff_ne.mpr fun z => e (al_inj A hj (h k List.mem_cons_self) z)]
    rw [e]
theorem eo_at (A : Ad) {i j : Nat} (hi : i < 35) (hj : j < 35) : isEO (ec A) ((al A).getD i 0) ((al A).getD j 0) = some ((upsI.getD i []).contains j) := by
  unfold isEO
  rw [ec_look A hi, ec_look A hj]
  have h : ∀ i : Fin 35, ∀ k ∈ upsI.getD i.1 [], k < 35 := by decide +kernel
  exact congrArg some (has_map A hj (h ⟨i, hi⟩))
theorem et_at (A : Ad) {i : Nat} (hi : i < 35) {t : String} (ht : t ∈ ebts) : isET (ec A) ((al A).getD i 0) t = some ((tysI.getD i []).contains t) := by
  unfold isET
  rw [ec_look A hi]
  exact if_pos ht
theorem ord_lt {p : Nat} (hp : p < 32) : ordI.getD p 0 < 35 := by
  have h : ∀ p : Fin 32, ordI.getD p.1 0 < 35 := by decide +kernel
  exact h ⟨p, hp⟩
theorem eo_cl (A : Ad) {p j : Nat} (hp : p < 32) (hj : j < 32) : isEO (ec A) (clX A p) (clX A j) = some (isP j p) := by
  unfold clX
  rw [eo_at A (ord_lt hp) (ord_lt hj)]
  have h : ∀ p j : Fin 32, (upsI.getD (ordI.getD p.1 0) []).contains (ordI.getD j.1 0) = isP j.1 p.1 := by decide +kernel
  exact congrArg some (h ⟨p, hp⟩ ⟨j, hj⟩)
def isB (b p : Nat) : Bool := match b with
  | 0 => decide (p < 21)
  | 1 => decide (20 < p) && decide (p < 31)
  | _ => decide (p = 31)
theorem eo_SE (A : Ad) {p : Nat} (hp : p < 32) : isEO (ec A) (clX A p) A.c_ShapeError = some (isB 0 p) := by
  have e := eo_at A (ord_lt hp) (j := 0) (by decide)
  have h : ∀ p : Fin 32, (upsI.getD (ordI.getD p.1 0) []).contains 0 = isB 0 p.1 := by decide +kernel
  exact e.trans (congrArg some (h ⟨p, hp⟩))
theorem eo_QE (A : Ad) {p : Nat} (hp : p < 32) : isEO (ec A) (clX A p) A.c_QuestionError = some (isB 1 p) := by
  have e := eo_at A (ord_lt hp) (j := 22) (by decide)
  have h : ∀ p : Fin 32, (upsI.getD (ordI.getD p.1 0) []).contains 22 = isB 1 p.1 := by decide +kernel
  exact e.trans (congrArg some (h ⟨p, hp⟩))
theorem eo_ZE (A : Ad) {p : Nat} (hp : p < 32) : isEO (ec A) (clX A p) A.c_SizeError = some (isB 2 p) := by
  have e := eo_at A (ord_lt hp) (j := 33) (by decide)
  have h : ∀ p : Fin 32, (upsI.getD (ordI.getD p.1 0) []).contains 33 = isB 2 p.1 := by decide +kernel
  exact e.trans (congrArg some (h ⟨p, hp⟩))
theorem et_VE (A : Ad) {p : Nat} (hp : p < 32) : isET (ec A) (clX A p) "ValueError" = some (isB 0 p) := by
  have e := et_at A (ord_lt hp) (t := "ValueError") (by decide)
  have h : ∀ p : Fin 32, (tysI.getD (ordI.getD p.1 0) []).contains "ValueError" = isB 0 p.1 := by decide +kernel
  exact e.trans (congrArg some (h ⟨p, hp⟩))
theorem et_LE (A : Ad) {p : Nat} (hp : p < 32) : isET (ec A) (clX A p) "LookupError" = some (isB 1 p) := by
  have e := et_at A (ord_lt hp) (t := "LookupError") (by decide)
  have h : ∀ p : Fin 32, (tysI.getD (ordI.getD p.1 0) []).contains "LookupError" = isB 1 p.1 := by decide +kernel
  exact e.trans (congrArg some (h ⟨p, hp⟩))
theorem et_AE (A : Ad) {p : Nat} (hp : p < 32) : isET (ec A) (clX A p) "ArithmeticError" = some (isB 2 p) := by
  have e := et_at A (ord_lt hp) (t := "ArithmeticError") (by decide)
  have h : ∀ p : Fin 32, (tysI.getD (ordI.getD p.1 0) []).contains "ArithmeticError" = isB 2 p.1 := by decide +kernel
  exact e.trans (congrArg some (h ⟨p, hp⟩))
theorem hw_law_classes (A : Ad) : ∀ ds er q, ds.length = 1 → S_law_classes A ds er q → w_law_classes A { nx := fun _ => q .non, rt := q, er := er } (envOf 2 ds) := by
  intro ds er q hlen h
  unfold S_law_classes at h
  split at h
  · rename_i C fs
    obtain ⟨p, hp, rfl, hq⟩ := h
    have e0 : isEO (ec A) (clX A p) A.c_InvalidStep = some (isP 0 p) := eo_cl A hp (j := 0) (by decide)
    have e1 : isEO (ec A) (clX A p) A.c_InvalidNumber = some (isP 1 p) := eo_cl A hp (j := 1) (by decide)
    have e2 : isEO (ec A) (clX A p) A.c_InvalidNumbers = some (isP 2 p) := eo_cl A hp (j := 2) (by decide)
    have e3 : isEO (ec A) (clX A p) A.c_InvalidDigits = some (isP 3 p) := eo_cl A hp (j := 3) (by decide)
    have e4 : isEO (ec A) (clX A p) A.c_InvalidMoves = some (isP 4 p) := eo_cl A hp (j := 4) (by decide)
    have e5 : isEO (ec A) (clX A p) A.c_InvalidSigns = some (isP 5 p) := eo_cl A hp (j := 5) (by decide)
    have e6 : isEO (ec A) (clX A p) A.c_InvalidName = some (isP 6 p) := eo_cl A hp (j := 6) (by decide)
    have e7 : isEO (ec A) (clX A p) A.c_InvalidWish = some (isP 7 p) := eo_cl A hp (j := 7) (by decide)
    have e8 : isEO (ec A) (clX A p) A.c_InvalidText = some (isP 8 p) := eo_cl A hp (j := 8) (by decide)
    have e9 : isEO (ec A) (clX A p) A.c_InvalidGood = some (isP 9 p) := eo_cl A hp (j := 9) (by decide)
    have e10 : isEO (ec A) (clX A p) A.c_InvalidLine = some (isP 10 p) := eo_cl A hp (j := 10) (by decide)
    have e11 : isEO (ec A) (clX A p) A.c_NotASystem = some (isP 11 p) := eo_cl A hp (j := 11) (by decide)
    have e12 : isEO (ec A) (clX A p) A.c_NotARow = some (isP 12 p) := eo_cl A hp (j := 12) (by decide)
    have e13 : isEO (ec A) (clX A p) A.c_NotAWish = some (isP 13 p) := eo_cl A hp (j := 13) (by decide)
    have e14 : isEO (ec A) (clX A p) A.c_NotABook = some (isP 14 p) := eo_cl A hp (j := 14) (by decide)
    have e15 : isEO (ec A) (clX A p) A.c_NotAMachine = some (isP 15 p) := eo_cl A hp (j := 15) (by decide)
    have e16 : isEO (ec A) (clX A p) A.c_InvalidRule = some (isP 16 p) := eo_cl A hp (j := 16) (by decide)
    have e17 : isEO (ec A) (clX A p) A.c_InvalidRows = some (isP 17 p) := eo_cl A hp (j := 17) (by decide)
    have e18 : isEO (ec A) (clX A p) A.c_InvalidSayings = some (isP 18 p) := eo_cl A hp (j := 18) (by decide)
    have e19 : isEO (ec A) (clX A p) A.c_InvalidGuards = some (isP 19 p) := eo_cl A hp (j := 19) (by decide)
    have e20 : isEO (ec A) (clX A p) A.c_InvalidDeed = some (isP 20 p) := eo_cl A hp (j := 20) (by decide)
    have e21 : isEO (ec A) (clX A p) A.c_UnknownRow = some (isP 21 p) := eo_cl A hp (j := 21) (by decide)
    have e22 : isEO (ec A) (clX A p) A.c_UnknownSaying = some (isP 22 p) := eo_cl A hp (j := 22) (by decide)
    have e23 : isEO (ec A) (clX A p) A.c_OtherSystem = some (isP 23 p) := eo_cl A hp (j := 23) (by decide)
    have e24 : isEO (ec A) (clX A p) A.c_OtherNames = some (isP 24 p) := eo_cl A hp (j := 24) (by decide)
    have e25 : isEO (ec A) (clX A p) A.c_Never = some (isP 25 p) := eo_cl A hp (j := 25) (by decide)
    have e26 : isEO (ec A) (clX A p) A.c_Endless = some (isP 26 p) := eo_cl A hp (j := 26) (by decide)
    have e27 : isEO (ec A) (clX A p) A.c_Busy = some (isP 27 p) := eo_cl A hp (j := 27) (by decide)
    have e28 : isEO (ec A) (clX A p) A.c_NothingToUndo = some (isP 28 p) := eo_cl A hp (j := 28) (by decide)
    have e29 : isEO (ec A) (clX A p) A.c_TooFew = some (isP 29 p) := eo_cl A hp (j := 29) (by decide)
    have e30 : isEO (ec A) (clX A p) A.c_Refused = some (isP 30 p) := eo_cl A hp (j := 30) (by decide)
    have e31 : isEO (ec A) (clX A p) A.c_TooMany = some (isP 31 p) := eo_cl A hp (j := 31) (by decide)
    simp [w_law_classes, wVar, wC, w2, w1, wNil, wCons, wTup, wLstO, wFz, wLk, wOwn, wAnd, wOr, wNot, wB, wYes, wIf, wFldC, wCB, wCBL, wCall0, wMeth0, wMethN0, wMakeK0, wMake0, sSeq, sNext, sNever, sRet, sRetN, sRetO, sIf, sAsg, sAsgO, sPar, sParO, sPar3, sParO3, sAsgG, gTupD, setAll, sAug, sApp, sFldI, tyAnd, tyOr, tyNot, iRg1, iRg2, iLst, iTupW, sFor, dAdd, dSub, dMul, dMulT, dDiv, dMod, dPow, dNeg, dLt, dLe, dGt, dGe, dIsN, DL.isNon, dNotN, dEq, dNe, dIx, dLen, dInt, dAbs, dMax2, dMin2, lLen, lTup, isA, envOf, envI, putD, gVar, wRev, wRevT, wIxL, wSl, wSlO, wNoP, wPart, wBag, okD_int, okD_bl, okD_non, eqD_int, eqD_bl, wipeE, wChain, wCallI0, wCallIK0, iSt, dLenO, wLRg1, wJoin, sDrop, wDGet, wDIn, wDNotIn, dE, dOwn, sDPutW, sFrzD, sFrz, sAsgN, sParN, sParN3, nE, nO, nDict, nDisp1, wFzD, NV.sv, iEnumW, wInS, wIndexS, wCatO, dInI, iKeysW, wMaxV, wCntT, lTupX, wIsX, sz_line, e0, e1, e2, e3, e4, e5, e6, e7, e8, e9, e10, e11, e12, e13, e14, e15, e16, e17, e18, e19, e20, e21, e22, e23, e24, e25, e26, e27, e28, e29, e30, e31]
    exact hq
  · exact h.elim
theorem loop_bag (A : Ad) {x y cell : SV} {k : Int} {n : DN} : ∀ (l : List Int) (seed : Int) (c : SV), (∀ seed c, n.nx [x, .d (.int k), cell, .d (.int seed), c, .un]) →
    sLoop (lb_law_bag_1 A) (gVar 4) n (l.map .int) [x, .d (.int k), cell, .d (.int seed), c, .un]
  | [], seed, c, h => h seed c
  | d :: l, seed, c, h => by
    have ih := fun seed c => loop_bag A (x := x) (y := y) (cell := cell) (k := k) (n := n) l seed c h
    rw [List.map_cons, sLoop]
    simp [lb_law_bag_1, wVar, wC, w2, w1, wNil, wCons, wTup, wLstO, wFz, wLk, wOwn, wAnd, wOr, wNot, wB, wYes, wIf, wFldC, wCB, wCBL, wCall0, wMeth0, wMethN0, wMakeK0, wMake0, sSeq, sNext, sNever, sRet, sRetN, sRetO, sIf, sAsg, sAsgO, sPar, sParO, sPar3, sParO3, sAsgG, gTupD, setAll, sAug, sApp, sFldI, tyAnd, tyOr, tyNot, iRg1, iRg2, iLst, iTupW, sFor, dAdd, dSub, dMul, dMulT, dDiv, dMod, dPow, dNeg, dLt, dLe, dGt, dGe, dIsN, DL.isNon, dNotN, dEq, dNe, dIx, dLen, dInt, dAbs, dMax2, dMin2, lLen, lTup, isA, envOf, envI, putD, gVar, wRev, wRevT, wIxL, wSl, wSlO, wNoP, wPart, wBag, okD_int, okD_bl, okD_non, eqD_int, eqD_bl, wipeE, wChain, wCallI0, wCallIK0, iSt, dLenO, wLRg1, wJoin, sDrop, wDGet, wDIn, wDNotIn, dE, dOwn, sDPutW, sFrzD, sFrz, sAsgN, sParN, sParN3, nE, nO, nDict, nDisp1, wFzD, NV.sv, iEnumW, wInS, wIndexS, wCatO, dInI, iKeysW, wMaxV, wCntT, lTupX]
    exact ⟨.inl (.inr (by decide)), .inl (.inl (by decide)), ih _ _⟩
theorem hw_law_bag (A : Ad) : ∀ ds er q, ds.length = 2 → S_law_bag A ds er q → w_law_bag A { nx := fun _ => q .non, rt := q, er := er } (envOf 6 ds) := by
  intro ds er q hlen h
  unfold S_law_bag at h
  split at h
  · rename_i ns k
    obtain ⟨h0, hq⟩ := h
    simp [w_law_bag, wVar, wC, w2, w1, wNil, wCons, wTup, wLstO, wFz, wLk, wOwn, wAnd, wOr, wNot, wB, wYes, wIf, wFldC, wCB, wCBL, wCall0, wMeth0, wMethN0, wMakeK0, wMake0, sSeq, sNext, sNever, sRet, sRetN, sRetO, sIf, sAsg, sAsgO, sPar, sParO, sPar3, sParO3, sAsgG, gTupD, setAll, sAug, sApp, sFldI, tyAnd, tyOr, tyNot, iRg1, iRg2, iLst, iTupW, sFor, dAdd, dSub, dMul, dMulT, dDiv, dMod, dPow, dNeg, dLt, dLe, dGt, dGe, dIsN, DL.isNon, dNotN, dEq, dNe, dIx, dLen, dInt, dAbs, dMax2, dMin2, lLen, lTup, isA, envOf, envI, putD, gVar, wRev, wRevT, wIxL, wSl, wSlO, wNoP, wPart, wBag, okD_int, okD_bl, okD_non, eqD_int, eqD_bl, wipeE, wChain, wCallI0, wCallIK0, iSt, dLenO, wLRg1, wJoin, sDrop, wDGet, wDIn, wDNotIn, dE, dOwn, sDPutW, sFrzD, sFrz, sAsgN, sParN, sParN3, nE, nO, nDict, nDisp1, wFzD, NV.sv, iEnumW, wInS, wIndexS, wCatO, dInI, iKeysW, wMaxV, wCntT, lTupX]
    have e7 : cutD ns none (some 7) = ns.take 7 := cutD_to (n := 7)
    have fin : ∀ cell seed : Int, 0 ≤ (seed + 40487 * (cell % 999961)) % 2147483587 := fun cell seed => Int.emod_nonneg _ (by decide)
    refine ⟨fun h => ?_, fun h => ?_⟩
    · obtain ⟨k, rfl⟩ := Int.eq_ofNat_of_zero_le h0
      rw [atD_nat, List.getElem?_eq_getElem (by omega)]
      refine ⟨.inl (.inl (by decide)), ?_⟩
      simp only [dSl]
      rw [e7]
      refine loop_bag A (y := .un) _ _ _ fun seed c => ?_
      simp [wVar, wC, w2, w1, wNil, wCons, wTup, wLstO, wFz, wLk, wOwn, wAnd, wOr, wNot, wB, wYes, wIf, wFldC, wCB, wCBL, wCall0, wMeth0, wMethN0, wMakeK0, wMake0, sSeq, sNext, sNever, sRet, sRetN, sRetO, sIf, sAsg, sAsgO, sPar, sParO, sPar3, sParO3, sAsgG, gTupD, setAll, sAug, sApp, sFldI, tyAnd, tyOr, tyNot, iRg1, iRg2, iLst, iTupW, sFor, dAdd, dSub, dMul, dMulT, dDiv, dMod, dPow, dNeg, dLt, dLe, dGt, dGe, dIsN, DL.isNon, dNotN, dEq, dNe, dIx, dLen, dInt, dAbs, dMax2, dMin2, lLen, lTup, isA, envOf, envI, putD, gVar, wRev, wRevT, wIxL, wSl, wSlO, wNoP, wPart, wBag, okD_int, okD_bl, okD_non, eqD_int, eqD_bl, wipeE, wChain, wCallI0, wCallIK0, iSt, dLenO, wLRg1, wJoin, sDrop, wDGet, wDIn, wDNotIn, dE, dOwn, sDPutW, sFrzD, sFrz, sAsgN, sParN, sParN3, nE, nO, nDict, nDisp1, wFzD, NV.sv, iEnumW, wInS, wIndexS, wCatO, dInI, iKeysW, wMaxV, wCntT, lTupX]
      generalize ns[k] = cell
      exact ⟨fun hc => ⟨.inl (.inl (by decide)), by decide, ⟨by split <;> omega, fin _ _⟩, hq⟩, fun hc => ⟨⟨by decide, by decide, by decide⟩, fun _ => ⟨.inl (.inl (by decide)), by decide, ⟨by split <;> omega, fin _ _⟩, hq⟩, fun _ => ⟨.inl (.inl (by decide)), by decide, fin _ _, hq⟩⟩⟩
    · refine ⟨.inl (.inl (by decide)), ?_⟩
      simp only [dSl]
      rw [e7]
      refine loop_bag A (y := .un) _ _ _ fun seed c => ?_
      simp [wVar, wC, w2, w1, wNil, wCons, wTup, wLstO, wFz, wLk, wOwn, wAnd, wOr, wNot, wB, wYes, wIf, wFldC, wCB, wCBL, wCall0, wMeth0, wMethN0, wMakeK0, wMake0, sSeq, sNext, sNever, sRet, sRetN, sRetO, sIf, sAsg, sAsgO, sPar, sParO, sPar3, sParO3, sAsgG, gTupD, setAll, sAug, sApp, sFldI, tyAnd, tyOr, tyNot, iRg1, iRg2, iLst, iTupW, sFor, dAdd, dSub, dMul, dMulT, dDiv, dMod, dPow, dNeg, dLt, dLe, dGt, dGe, dIsN, DL.isNon, dNotN, dEq, dNe, dIx, dLen, dInt, dAbs, dMax2, dMin2, lLen, lTup, isA, envOf, envI, putD, gVar, wRev, wRevT, wIxL, wSl, wSlO, wNoP, wPart, wBag, okD_int, okD_bl, okD_non, eqD_int, eqD_bl, wipeE, wChain, wCallI0, wCallIK0, iSt, dLenO, wLRg1, wJoin, sDrop, wDGet, wDIn, wDNotIn, dE, dOwn, sDPutW, sFrzD, sFrz, sAsgN, sParN, sParN3, nE, nO, nDict, nDisp1, wFzD, NV.sv, iEnumW, wInS, wIndexS, wCatO, dInI, iKeysW, wMaxV, wCntT, lTupX]
      exact ⟨⟨by decide, by decide, by decide⟩, .inl (.inl (by decide)), by decide, Int.emod_nonneg _ (by decide), hq⟩
  · exact h.elim
theorem hw_law_one (A : Ad) : ∀ ds er q, ds.length = 2 → S_law_one A ds er q → w_law_one A { nx := fun _ => q .non, rt := q, er := er } (envOf 2 ds) := by
  intro ds er q hlen h
  unfold S_law_one at h
  split at h
  · rename_i b l
    obtain ⟨h0, h1, hq⟩ := h
    simp [w_law_one, wVar, wC, w2, w1, wNil, wCons, wTup, wLstO, wFz, wLk, wOwn, wAnd, wOr, wNot, wB, wYes, wIf, wFldC, wCB, wCBL, wCall0, wMeth0, wMethN0, wMakeK0, wMake0, sSeq, sNext, sNever, sRet, sRetN, sRetO, sIf, sAsg, sAsgO, sPar, sParO, sPar3, sParO3, sAsgG, gTupD, setAll, sAug, sApp, sFldI, tyAnd, tyOr, tyNot, iRg1, iRg2, iLst, iTupW, sFor, dAdd, dSub, dMul, dMulT, dDiv, dMod, dPow, dNeg, dLt, dLe, dGt, dGe, dIsN, DL.isNon, dNotN, dEq, dNe, dIx, dLen, dInt, dAbs, dMax2, dMin2, lLen, lTup, isA, envOf, envI, putD, gVar, wRev, wRevT, wIxL, wSl, wSlO, wNoP, wPart, wBag, okD_int, okD_bl, okD_non, eqD_int, eqD_bl, wipeE, wChain, wCallI0, wCallIK0, iSt, dLenO, wLRg1, wJoin, sDrop, wDGet, wDIn, wDNotIn, dE, dOwn, sDPutW, sFrzD, sFrz, sAsgN, sParN, sParN3, nE, nO, nDict, nDisp1, wFzD, NV.sv, iEnumW, wInS, wIndexS, wCatO, dInI, iKeysW, wMaxV, wCntT, lTupX, S_law_draw, sDraw]
    refine ⟨by omega, by omega, fun r hr0 hr1 => ?_⟩
    obtain ⟨r, rfl⟩ := Int.eq_ofNat_of_zero_le hr0
    have hr : r < l.length := by omega
    rw [atD_nat, List.getElem?_eq_getElem hr]
    exact hq _ (List.getElem_mem _)
  · exact h.elim
theorem set_st {d : D} {c : SV} {ds : List D} {wa : WA} {rest : WS} {n : DN} (hwa : ∀ (r : EV) (er : ER) (qq : List D → Prop), qq ds → wa (.d d :: r) er qq) (hl : ds.length ≤ 1000) (h : rest n [.d d, .d (.lst ds)]) : sSeq (sAsg 1 (wFz (wLstO wa))) rest n [.d d, c] := by
  simp [wVar, wC, w2, w1, wNil, wCons, wTup, wLstO, wFz, wLk, wOwn, wAnd, wOr, wNot, wB, wYes, wIf, wFldC, wCB, wCBL, wCall0, wMeth0, wMethN0, wMakeK0, wMake0, sSeq, sNext, sNever, sRet, sRetN, sRetO, sIf, sAsg, sAsgO, sPar, sParO, sPar3, sParO3, sAsgG, gTupD, setAll, sAug, sApp, sFldI, tyAnd, tyOr, tyNot, iRg1, iRg2, iLst, iTupW, sFor, dAdd, dSub, dMul, dMulT, dDiv, dMod, dPow, dNeg, dLt, dLe, dGt, dGe, dIsN, DL.isNon, dNotN, dEq, dNe, dIx, dLen, dInt, dAbs, dMax2, dMin2, lLen, lTup, isA, envOf, envI, putD, gVar, wRev, wRevT, wIxL, wSl, wSlO, wNoP, wPart, wBag, okD_int, okD_bl, okD_non, eqD_int, eqD_bl, wipeE, wChain, wCallI0, wCallIK0, iSt, dLenO, wLRg1, wJoin, sDrop, wDGet, wDIn, wDNotIn, dE, dOwn, sDPutW, sFrzD, sFrz, sAsgN, sParN, sParN3, nE, nO, nDict, nDisp1, wFzD, NV.sv, iEnumW, wInS, wIndexS, wCatO, dInI, iKeysW, wMaxV, wCntT, lTupX]
  refine hwa _ _ _ ?_
  simp [wVar, wC, w2, w1, wNil, wCons, wTup, wLstO, wFz, wLk, wOwn, wAnd, wOr, wNot, wB, wYes, wIf, wFldC, wCB, wCBL, wCall0, wMeth0, wMethN0, wMakeK0, wMake0, sSeq, sNext, sNever, sRet, sRetN, sRetO, sIf, sAsg, sAsgO, sPar, sParO, sPar3, sParO3, sAsgG, gTupD, setAll, sAug, sApp, sFldI, tyAnd, tyOr, tyNot, iRg1, iRg2, iLst, iTupW, sFor, dAdd, dSub, dMul, dMulT, dDiv, dMod, dPow, dNeg, dLt, dLe, dGt, dGe, dIsN, DL.isNon, dNotN, dEq, dNe, dIx, dLen, dInt, dAbs, dMax2, dMin2, lLen, lTup, isA, envOf, envI, putD, gVar, wRev, wRevT, wIxL, wSl, wSlO, wNoP, wPart, wBag, okD_int, okD_bl, okD_non, eqD_int, eqD_bl, wipeE, wChain, wCallI0, wCallIK0, iSt, dLenO, wLRg1, wJoin, sDrop, wDGet, wDIn, wDNotIn, dE, dOwn, sDPutW, sFrzD, sFrz, sAsgN, sParN, sParN3, nE, nO, nDict, nDisp1, wFzD, NV.sv, iEnumW, wInS, wIndexS, wCatO, dInI, iKeysW, wMaxV, wCntT, lTupX, sz_line]
  exact ⟨by omega, h⟩
theorem add_st {d : D} {l ds : List D} {wa : WA} {rest : WS} {n : DN} (hwa : ∀ (r : EV) (er : ER) (qq : List D → Prop), qq ds → wa (.d d :: r) er qq) (hl : l.length + ds.length ≤ 1000) (h : rest n [.d d, .d (.lst (l ++ ds))]) : sSeq (sAsg 1 (w2 dAdd (wVar 1) (wFz (wLstO wa)))) rest n [.d d, .d (.lst l)] := by
  simp [wVar, wC, w2, w1, wNil, wCons, wTup, wLstO, wFz, wLk, wOwn, wAnd, wOr, wNot, wB, wYes, wIf, wFldC, wCB, wCBL, wCall0, wMeth0, wMethN0, wMakeK0, wMake0, sSeq, sNext, sNever, sRet, sRetN, sRetO, sIf, sAsg, sAsgO, sPar, sParO, sPar3, sParO3, sAsgG, gTupD, setAll, sAug, sApp, sFldI, tyAnd, tyOr, tyNot, iRg1, iRg2, iLst, iTupW, sFor, dAdd, dSub, dMul, dMulT, dDiv, dMod, dPow, dNeg, dLt, dLe, dGt, dGe, dIsN, DL.isNon, dNotN, dEq, dNe, dIx, dLen, dInt, dAbs, dMax2, dMin2, lLen, lTup, isA, envOf, envI, putD, gVar, wRev, wRevT, wIxL, wSl, wSlO, wNoP, wPart, wBag, okD_int, okD_bl, okD_non, eqD_int, eqD_bl, wipeE, wChain, wCallI0, wCallIK0, iSt, dLenO, wLRg1, wJoin, sDrop, wDGet, wDIn, wDNotIn, dE, dOwn, sDPutW, sFrzD, sFrz, sAsgN, sParN, sParN3, nE, nO, nDict, nDisp1, wFzD, NV.sv, iEnumW, wInS, wIndexS, wCatO, dInI, iKeysW, wMaxV, wCntT, lTupX]
  refine hwa _ _ _ ?_
  simp [wVar, wC, w2, w1, wNil, wCons, wTup, wLstO, wFz, wLk, wOwn, wAnd, wOr, wNot, wB, wYes, wIf, wFldC, wCB, wCBL, wCall0, wMeth0, wMethN0, wMakeK0, wMake0, sSeq, sNext, sNever, sRet, sRetN, sRetO, sIf, sAsg, sAsgO, sPar, sParO, sPar3, sParO3, sAsgG, gTupD, setAll, sAug, sApp, sFldI, tyAnd, tyOr, tyNot, iRg1, iRg2, iLst, iTupW, sFor, dAdd, dSub, dMul, dMulT, dDiv, dMod, dPow, dNeg, dLt, dLe, dGt, dGe, dIsN, DL.isNon, dNotN, dEq, dNe, dIx, dLen, dInt, dAbs, dMax2, dMin2, lLen, lTup, isA, envOf, envI, putD, gVar, wRev, wRevT, wIxL, wSl, wSlO, wNoP, wPart, wBag, okD_int, okD_bl, okD_non, eqD_int, eqD_bl, wipeE, wChain, wCallI0, wCallIK0, iSt, dLenO, wLRg1, wJoin, sDrop, wDGet, wDIn, wDNotIn, dE, dOwn, sDPutW, sFrzD, sFrz, sAsgN, sParN, sParN3, nE, nO, nDict, nDisp1, wFzD, NV.sv, iEnumW, wInS, wIndexS, wCatO, dInI, iKeysW, wMaxV, wCntT, lTupX, sz_line]
  exact ⟨by omega, by omega, h⟩
theorem hw_law_indexes (A : Ad) : ∀ ds er q, ds.length = 1 → S_law_indexes A ds er q → w_law_indexes A { nx := fun _ => q .non, rt := q, er := er } (envOf 2 ds) := by
  intro ds er q hlen h
  unfold S_law_indexes at h
  split at h
  · rename_i d
    refine set_st (fun _ _ _ z => z) (Nat.le_of_ble_eq_true rfl) ?_
    refine add_st (fun _ _ _ z => z) (Nat.le_of_ble_eq_true rfl) ?_
    refine add_st (fun _ _ _ z => z) (Nat.le_of_ble_eq_true rfl) ?_
    refine add_st (fun _ _ _ z => z) (Nat.le_of_ble_eq_true rfl) ?_
    exact h
  · exact h.elim
theorem hw_law_values (A : Ad) : ∀ ds er q, ds.length = 1 → S_law_values A ds er q → w_law_values A { nx := fun _ => q .non, rt := q, er := er } (envOf 2 ds) := by
  intro ds er q hlen h
  unfold S_law_values at h
  split at h
  · rename_i d
    refine set_st (fun _ _ _ z => z) (Nat.le_of_ble_eq_true rfl) ?_
    refine add_st (fun _ _ _ z => z) (Nat.le_of_ble_eq_true rfl) ?_
    refine add_st (fun _ _ _ z => z) (Nat.le_of_ble_eq_true rfl) ?_
    refine add_st (fun _ _ _ z => z) (Nat.le_of_ble_eq_true rfl) ?_
    refine add_st (fun _ _ _ z => z) (Nat.le_of_ble_eq_true rfl) ?_
    refine add_st (fun _ _ _ z => z) (Nat.le_of_ble_eq_true rfl) ?_
    refine add_st (fun _ _ _ z => z) (Nat.le_of_ble_eq_true rfl) ?_
    refine add_st (fun _ _ _ z => z) (Nat.le_of_ble_eq_true rfl) ?_
    refine add_st (fun _ _ _ z => z) (Nat.le_of_ble_eq_true rfl) ?_
    refine add_st (fun _ _ _ z => z) (Nat.le_of_ble_eq_true rfl) ?_
    refine add_st (fun _ _ _ z => z) (Nat.le_of_ble_eq_true rfl) ?_
    refine add_st (fun _ _ _ z => z) (Nat.le_of_ble_eq_true rfl) ?_
    exact h
  · exact h.elim
theorem bools_is (p : Nat) : ∀ l : List Nat, bools (l.map fun j => .bl (isP j p)) = some (l.map fun j => isP j p)
  | [] => rfl
  | a :: l => by
    have ih := bools_is p l
    rw [List.map_cons, bools, ih]
    rfl
theorem cnt_is {p : Nat} (hp : p < 32) : ((List.range 32).map fun j => isP j p).count true = 1 := by
  have h : ∀ p : Fin 32, ((List.range 32).map fun j => isP j p.1).count true = 1 := by decide +kernel
  exact h ⟨p, hp⟩
theorem idx_is {p : Nat} (hp : p < 32) : true ∈ ((List.range 32).map fun j => isP j p) ∧ ((List.range 32).map fun j => isP j p).idxOf true = p := by
  have h : ∀ p : Fin 32, true ∈ ((List.range 32).map fun j => isP j p.1) ∧ ((List.range 32).map fun j => isP j p.1).idxOf true = p.1 := by decide +kernel
  exact h ⟨p, hp⟩
theorem okL_b3 (a b c : Bool) : okL 1 (.lst [.bl a, .bl b, .bl c]) := okL_lst fun x hx => by
  simp only [List.mem_cons, List.not_mem_nil, or_false] at hx
  rcases hx with rfl | rfl | rfl <;> exact okL_bl _
theorem hw_law_is (A : Ad) : ∀ ds er q, ds.length = 2 → S_law_is A ds er q → w_law_is A { nx := fun _ => q .non, rt := q, er := er } (envOf 6 ds) := by
  intro ds er q hlen h
  unfold S_law_is at h
  split at h
  · rename_i C fs at_
    obtain ⟨p, hp, rfl, rfl, hq⟩ := h
    have g0 : decide ((p : Int) < 21) = isB 0 p := by
      show _ = decide _
      exact decide_eq_decide.mpr (by omega)
    have g1 : (decide ((20 : Int) < p) && decide ((p : Int) < 31)) = isB 1 p := by
      show _ = (decide _ && decide _)
      rw [decide_eq_decide.mpr (show ((20 : Int) < p) ↔ 20 < p by omega), decide_eq_decide.mpr (show ((p : Int) < 31) ↔ p < 31 by omega)]
    have g2 : decide ((p : Int) = 31) = isB 2 p := by
      show _ = decide _
      exact decide_eq_decide.mpr (by omega)
    have o := okL_b3 (isB 0 p) (isB 1 p) (isB 2 p)
    have o1 : okD (.lst [.bl (isB 0 p), .bl (isB 1 p), .bl (isB 2 p)]) := okD_of o (by decide)
    have o2 : eqD (.lst [.bl (isB 0 p), .bl (isB 1 p), .bl (isB 2 p)]) (.lst [.bl (isB 0 p), .bl (isB 1 p), .bl (isB 2 p)]) = true := eqD_refl o
    have i1 := idx_is hp
    simp [w_law_is, wVar, wC, w2, w1, wNil, wCons, wTup, wLstO, wFz, wLk, wOwn, wAnd, wOr, wNot, wB, wYes, wIf, wFldC, wCB, wCBL, wCall0, wMeth0, wMethN0, wMakeK0, wMake0, sSeq, sNext, sNever, sRet, sRetN, sRetO, sIf, sAsg, sAsgO, sPar, sParO, sPar3, sParO3, sAsgG, gTupD, setAll, sAug, sApp, sFldI, tyAnd, tyOr, tyNot, iRg1, iRg2, iLst, iTupW, sFor, dAdd, dSub, dMul, dMulT, dDiv, dMod, dPow, dNeg, dLt, dLe, dGt, dGe, dIsN, DL.isNon, dNotN, dEq, dNe, dIx, dLen, dInt, dAbs, dMax2, dMin2, lLen, lTup, isA, envOf, envI, putD, gVar, wRev, wRevT, wIxL, wSl, wSlO, wNoP, wPart, wBag, okD_int, okD_bl, okD_non, eqD_int, eqD_bl, wipeE, wChain, wCallI0, wCallIK0, iSt, dLenO, wLRg1, wJoin, sDrop, wDGet, wDIn, wDNotIn, dE, dOwn, sDPutW, sFrzD, sFrz, sAsgN, sParN, sParN3, nE, nO, nDict, nDisp1, wFzD, NV.sv, iEnumW, wInS, wIndexS, wCatO, dInI, iKeysW, wMaxV, wCntT, lTupX, wIsX, wCntB, wIndexB, S_law_classes, sz_line, eo_SE A hp, eo_QE A hp, eo_ZE A hp, et_VE A hp, et_LE A hp, et_AE A hp]
    have k1 : (20 : Int) < p → decide ((p : Int) < 31) = isB 1 p := fun z => by rw [← g1, decide_eq_true z, Bool.true_and]
    have k2 : ¬ (20 : Int) < p → false = isB 1 p := fun z => by rw [← g1, decide_eq_false z, Bool.false_and]
    have k3 : ((p : Int) == 31) = isB 2 p := g2
    have k4 : ((p : Int) == p) = true := beq_self_eq_true _
    have k5 : (((1 : Nat) : Int) == 1) = true := rfl
    refine ⟨p, hp, rfl, ?_⟩
    by_cases z : (20 : Int) < p
    · rw [decide_eq_true z]
      refine ⟨_, bools_is p _, ?_⟩
      rw [cnt_is hp, k5]
      refine ⟨_, bools_is p _, i1.1, ?_⟩
      rw [i1.2, k4, g0, k1 z, k3, o2]
      exact ⟨o1, o1, o1, o1, hq⟩
    · rw [decide_eq_false z]
      refine ⟨_, bools_is p _, ?_⟩
      rw [cnt_is hp, k5]
      refine ⟨_, bools_is p _, i1.1, ?_⟩
      rw [i1.2, k4, g0, k2 z, k3, o2]
      exact ⟨o1, o1, o1, o1, hq⟩
  · exact h.elim
/-! ### what is shown -/
def shX (d : D) : PySem.Str := match pdX d with
  | some p => p.shown
  | none => ""
theorem ch_app {x y : Str} (h1 : ∀ c ∈ x.cps.toList, c < 1114112) (h2 : ∀ c ∈ y.cps.toList, c < 1114112) : ∀ c ∈ (x ++ y).cps.toList, c < 1114112 := fun c hc => by
  have e : (x ++ y).cps.toList = x.cps.toList ++ y.cps.toList := by
    show (x.cps ++ y.cps).toList = _
    rw [Array.toList_append]
  rw [e] at hc
  rcases List.mem_append.mp hc with h | h
  · exact h1 c h
  · exact h2 c h
theorem ch_join {s : Str} (hs : ∀ c ∈ s.cps.toList, c < 1114112) : ∀ ts : List Str, (∀ t ∈ ts, ∀ c ∈ t.cps.toList, c < 1114112) → ∀ c ∈ (Str.join s ts).cps.toList, c < 1114112
  | [], _ => fun c hc => by cases hc
  | [x], h => h x (by simp)
  | x :: y :: r, h => ch_app (ch_app (h x (by simp)) hs) (ch_join hs (y :: r) fun t ht => h t (by simp at ht ⊢; exact .inr ht))
theorem okL_s {x : PySem.Str} (h : ∀ c ∈ x.cps.toList, c < 1114112) : okL 0 (.str x) := by
  refine ⟨_, rfl, ?_, Nat.le_refl _⟩
  show x.cps.all (fun c => decide (c < 0x110000)) = true
  rw [← Array.all_toList, List.all_eq_true]
  exact fun c hc => decide_eq_true (h c hc)
theorem okD_str {s : PySem.Str} (h : ∀ c ∈ s.cps.toList, c < 1114112) : okD (.str s) := okD_of (okL_s h) (by decide)
theorem eqD_str (s : PySem.Str) : eqD (.str s) (.str s) = true := by
  show PyData.eqv (.str s) (.str s) = true
  simp [PyData.eqv]
theorem repN_of {k : Nat} {d : D} {q : D → Prop} (h : okX k d) (hk : k ≤ 60) (z : q (.str (shX d))) : dReprN [d] q := by
  obtain ⟨p, e, h1, h2, h3, _⟩ := h
  have e2 : shX d = p.shown := by
    unfold shX
    rw [e]
  rw [e2] at z
  exact ⟨p, e, h1, by rw [sz_line]; omega, by omega, z⟩
theorem okX_s {k : Nat} {d : D} (h : okX k d) : okD (.str (shX d)) := by
  obtain ⟨p, e, h1, h2, h3, h4⟩ := h
  have e2 : shX d = p.shown := by
    unfold shX
    rw [e]
  rw [e2]
  exact okD_str h4
theorem two_pd {d m : D} (h : okX 3 d) (g : okX 3 m) : ∃ p p', pdX (.lst [d, m]) = some (.list [p, p']) ∧ shX (.lst [d, m]) = listText [p.shown, p'.shown] ∧ pdX d = some p ∧ pdX m = some p' := by
  obtain ⟨p, e, _⟩ := h
  obtain ⟨p', e', _⟩ := g
  have e1 : pdX (.lst [d, m]) = some (.list [p, p']) := by
    unfold pdX
    rw [show pdXA [d, m] = some [p, p'] by
      unfold pdXA
      rw [e]
      unfold pdXA
      rw [e']
      rfl]
    rfl
  refine ⟨p, p', e1, ?_, e, e'⟩
  unfold shX
  rw [e1]
  simp only [PyData.shown, PyData.shownAll]
theorem okX_s2 {d m : D} (h : okX 3 d) (g : okX 3 m) : okD (.str (shX (.lst [d, m]))) := by
  obtain ⟨p, p', e1, e2, e3, e4⟩ := two_pd h g
  obtain ⟨q, f1, _, _, _, h4⟩ := h
  obtain ⟨q', f2, _, _, _, h4'⟩ := g
  rw [e3] at f1
  rw [e4] at f2
  cases f1
  cases f2
  rw [e2, listText_eq_join]
  exact okD_str (ch_app (ch_app (by decide) (ch_join (by decide) _ fun t ht => by
    rcases List.mem_cons.mp ht with rfl | ht
    · exact h4
    · rw [List.mem_singleton.mp ht]
      exact h4')) (by decide))
theorem repN_2 {d m : D} {q : D → Prop} (h : okX 3 d) (g : okX 3 m) (z : q (.str (shX (.lst [d, m])))) : dReprN [.lst [d, m]] q := by
  obtain ⟨p, e, h1, h2, h3, _⟩ := h
  obtain ⟨p', e', h1', h2', h3', _⟩ := g
  have e1 : pdX (.lst [d, m]) = some (.list [p, p']) := by
    unfold pdX
    rw [show pdXA [d, m] = some [p, p'] by
      unfold pdXA
      rw [e]
      unfold pdXA
      rw [e']
      rfl]
    rfl
  have e2 : shX (.lst [d, m]) = (PyData.list [p, p']).shown := by
    unfold shX
    rw [e1]
  rw [e2] at z
  refine ⟨_, e1, ?_, ?_, ?_, z⟩
  · simp [PyData.showable, PyData.showableAll, h1, h1']
  · have l1 := listText_len_le (PyData.shownAll [p, p'])
    have l2 : (PyData.list [p, p']).shown = listText (PyData.shownAll [p, p']) := by simp only [PyData.shown]
    have l3 : PyData.shownAll [p, p'] = [p.shown, p'.shown] := by simp only [PyData.shownAll]
    rw [l2]
    rw [l3] at l1 ⊢
    simp at l1
    rw [sz_line]
    omega
  · simp [PyData.depth, PyData.depthAll]
    omega
theorem inE_cl (A : Ad) {p : Nat} (hp : p < 32) : inE (ec A) (clX A p) := by
  unfold inE clX
  rw [ec_look A (ord_lt hp)]
  rfl
theorem is_call (A : Ad) {p : Nat} (hp : p < 32) {fs : List (PySem.Str × D)} {er : ER} {q : D → Prop} (z : q (.bl true)) : S_law_is A [.exc (clX A p) fs, .int p] er q := ⟨p, hp, rfl, rfl, z⟩
theorem test_1 (A : Ad) {p : Nat} (hp : p < 32) {f : PySem.Str} {d m : D} {c2 c4 c5 : SV} {er : ER} {qq : Bool → Prop} (hd : okX 3 d) (z : qq false) :
    tyOr (wB (w2 dNe (wCB dReprN (wCons (wXfX (ec A) f (wVar 3)) wNil)) (wCB dReprN (wCons (wVar 0) wNil)))) (tyNot (wB (wCall0 2 (S_law_is A) [] (wCons (wVar 3) (wCons (wC (.int p)) wNil))))) [.d d, .d m, c2, .d (.exc (clX A p) [(f, d)]), c4, c5] er qq := by
  have lk : List.lookup f [(f, d)] = some d := by simp
  simp only [tyOr, wB, w2, wCB, wCons, wXfX, wVar, wNil, List.getElem?_cons_succ, List.getElem?_cons_zero, lk]
  refine ⟨inE_cl A hp, repN_of hd (by decide) (repN_of hd (by decide) ⟨okX_s hd, okX_s hd, ?_⟩)⟩
  rw [eqD_str]
  refine ⟨fun e => (by cases e), fun _ => ?_⟩
  simp only [tyNot, wB, wCall0, wCons, wVar, wC, wNil, List.getElem?_cons_succ, List.getElem?_cons_zero]
  exact ⟨rfl, is_call A hp z⟩
theorem test_2 (A : Ad) {d m : D} {c2 c4 c5 : SV} {er : ER} {qq : Bool → Prop} (hd : okX 3 d) (hm : okX 3 m) (z : qq false) :
    tyOr (wB (w2 dNe (wCB dReprN (wCons (wFz (wLstO (wCons (wXfX (ec A) "deed" (wVar 3)) (wCons (wXfX (ec A) "shown" (wVar 3)) wNil)))) wNil)) (wCB dReprN (wCons (wFz (wLstO (wCons (wVar 0) (wCons (wVar 1) wNil)))) wNil)))) (tyNot (wB (wCall0 2 (S_law_is A) [] (wCons (wVar 3) (wCons (wC (.int 30)) wNil))))) [.d d, .d m, c2, .d (.exc A.c_Refused [("shown", m), ("deed", d)]), c4, c5] er qq := by
  have lk : List.lookup ("deed" : PySem.Str) [(("shown" : PySem.Str), m), ("deed", d)] = some d := rfl
  have lk2 : List.lookup ("shown" : PySem.Str) [(("shown" : PySem.Str), m), ("deed", d)] = some m := rfl
  simp only [tyOr, wB, w2, wCB, wCons, wXfX, wVar, wNil, wFz, wLstO, List.getElem?_cons_succ, List.getElem?_cons_zero, lk, lk2]
  have ic : inE (ec A) A.c_Refused := inE_cl A (p := 30) (by decide)
  have b2 : [d, m].length ≤ sizeLine := by rw [sz_line]; exact Nat.le_of_ble_eq_true rfl
  refine ⟨ic, ic, b2, repN_2 hd hm ⟨b2, repN_2 hd hm ⟨okX_s2 hd hm, okX_s2 hd hm, ?_⟩⟩⟩
  rw [eqD_str]
  refine ⟨fun e => (by cases e), fun _ => ?_⟩
  simp only [tyNot, wB, wCall0, wCons, wVar, wC, wNil, List.getElem?_cons_succ, List.getElem?_cons_zero]
  exact ⟨rfl, is_call A (p := 30) (by decide) z⟩
theorem none_2 {d m : D} {c4 c5 : SV} {l : List D} {t : WT} {rest : WS} {n : DN} (ht : ∀ x ∈ l, ∀ qq : Bool → Prop, qq false → t [.d d, .d m, .d (.lst l), .d x, c4, c5] n.er qq) (hl : l.length ≤ 1000)
    (h : rest n [.d d, .d m, .d (.lst l), .un, c4, c5]) : sSeq (sIf (wB (w2 dNe (wFz (wLc (iLst (wVar 2)) (gVar 3) t (wVar 3) [3])) (wFz (wLstO wNil)))) (sRet (wC (.bl false))) sNext) rest n [.d d, .d m, .d (.lst l), .un, c4, c5] := by
  have z := comp_ok (c := id) (g := gVar 3) (wt := t) (we := wVar 3) (ew := [.d d, .d m, .d (.lst l), .un, c4, c5]) (er := n.er) (q := fun r => okD (.lst r) ∧ okD (.lst []) ∧ ((!eqD (.lst r) (.lst [])) = true → n.rt (.bl false)) ∧ ((!eqD (.lst r) (.lst [])) = false → rest n [.d d, .d m, .d (.lst l), .un, c4, c5])) (ev := fun x => [.d d, .d m, .d (.lst l), .d x, c4, c5]) (p := fun _ => false) (f := fun x => x) (l := l) (acc := []) (fun x _ Q hQ => hQ) (fun x hx Q hQ => ht x hx Q hQ) (fun x _ e => by cases e) (by rw [sz_line]; simp; omega) (by
    have e : l.filter (fun _ => false) = [] := by simp
    rw [e]
    exact ⟨rfl, rfl, fun e => (by cases e), fun _ => h⟩)
  rw [List.map_id] at z
  simp [wVar, wC, w2, w1, wNil, wCons, wTup, wLstO, wFz, wLk, wOwn, wAnd, wOr, wNot, wB, wYes, wIf, wFldC, wCB, wCBL, wCall0, wMeth0, wMethN0, wMakeK0, wMake0, sSeq, sNext, sNever, sRet, sRetN, sRetO, sIf, sAsg, sAsgO, sPar, sParO, sPar3, sParO3, sAsgG, gTupD, setAll, sAug, sApp, sFldI, tyAnd, tyOr, tyNot, iRg1, iRg2, iLst, iTupW, sFor, dAdd, dSub, dMul, dMulT, dDiv, dMod, dPow, dNeg, dLt, dLe, dGt, dGe, dIsN, DL.isNon, dNotN, dEq, dNe, dIx, dLen, dInt, dAbs, dMax2, dMin2, lLen, lTup, isA, envOf, envI, putD, gVar, wRev, wRevT, wIxL, wSl, wSlO, wNoP, wPart, wBag, okD_int, okD_bl, okD_non, eqD_int, eqD_bl, wipeE, wChain, wCallI0, wCallIK0, iSt, dLenO, wLRg1, wJoin, sDrop, wDGet, wDIn, wDNotIn, dE, dOwn, sDPutW, sFrzD, sFrz, sAsgN, sParN, sParN3, nE, nO, nDict, nDisp1, wFzD, NV.sv, iEnumW, wInS, wIndexS, wCatO, dInI, iKeysW, wMaxV, wCntT, lTupX, wLc]
  simp at z
  exact z
theorem none_4 {d m : D} {c2 c5 : SV} {l : List D} {t : WT} {rest : WS} {n : DN} (ht : ∀ x ∈ l, ∀ qq : Bool → Prop, qq false → t [.d d, .d m, c2, .d x, .d (.lst l), c5] n.er qq) (hl : l.length ≤ 1000)
    (h : rest n [.d d, .d m, c2, .un, .d (.lst l), c5]) : sSeq (sIf (wB (w2 dNe (wFz (wLc (iLst (wVar 4)) (gVar 3) t (wVar 3) [3])) (wFz (wLstO wNil)))) (sRet (wC (.bl false))) sNext) rest n [.d d, .d m, c2, .un, .d (.lst l), c5] := by
  have z := comp_ok (c := id) (g := gVar 3) (wt := t) (we := wVar 3) (ew := [.d d, .d m, c2, .un, .d (.lst l), c5]) (er := n.er) (q := fun r => okD (.lst r) ∧ okD (.lst []) ∧ ((!eqD (.lst r) (.lst [])) = true → n.rt (.bl false)) ∧ ((!eqD (.lst r) (.lst [])) = false → rest n [.d d, .d m, c2, .un, .d (.lst l), c5])) (ev := fun x => [.d d, .d m, c2, .d x, .d (.lst l), c5]) (p := fun _ => false) (f := fun x => x) (l := l) (acc := []) (fun x _ Q hQ => hQ) (fun x hx Q hQ => ht x hx Q hQ) (fun x _ e => by cases e) (by rw [sz_line]; simp; omega) (by
    have e : l.filter (fun _ => false) = [] := by simp
    rw [e]
    exact ⟨rfl, rfl, fun e => (by cases e), fun _ => h⟩)
  rw [List.map_id] at z
  simp [wVar, wC, w2, w1, wNil, wCons, wTup, wLstO, wFz, wLk, wOwn, wAnd, wOr, wNot, wB, wYes, wIf, wFldC, wCB, wCBL, wCall0, wMeth0, wMethN0, wMakeK0, wMake0, sSeq, sNext, sNever, sRet, sRetN, sRetO, sIf, sAsg, sAsgO, sPar, sParO, sPar3, sParO3, sAsgG, gTupD, setAll, sAug, sApp, sFldI, tyAnd, tyOr, tyNot, iRg1, iRg2, iLst, iTupW, sFor, dAdd, dSub, dMul, dMulT, dDiv, dMod, dPow, dNeg, dLt, dLe, dGt, dGe, dIsN, DL.isNon, dNotN, dEq, dNe, dIx, dLen, dInt, dAbs, dMax2, dMin2, lLen, lTup, isA, envOf, envI, putD, gVar, wRev, wRevT, wIxL, wSl, wSlO, wNoP, wPart, wBag, okD_int, okD_bl, okD_non, eqD_int, eqD_bl, wipeE, wChain, wCallI0, wCallIK0, iSt, dLenO, wLRg1, wJoin, sDrop, wDGet, wDIn, wDNotIn, dE, dOwn, sDPutW, sFrzD, sFrz, sAsgN, sParN, sParN3, nE, nO, nDict, nDisp1, wFzD, NV.sv, iEnumW, wInS, wIndexS, wCatO, dInI, iKeysW, wMaxV, wCntT, lTupX, wLc]
  simp at z
  exact z
theorem asg_st {i : Nat} {env env' : EV} {ds : List D} {wa : WA} {rest : WS} {n : DN} (hwa : ∀ (er : ER) (qq : List D → Prop), qq ds → wa env er qq) (hl : ds.length ≤ 1000) (he : env.set i (.d (.lst ds)) = env') (h : rest n env') : sSeq (sAsg i (wFz (wLstO wa))) rest n env := by
  subst he
  simp [wVar, wC, w2, w1, wNil, wCons, wTup, wLstO, wFz, wLk, wOwn, wAnd, wOr, wNot, wB, wYes, wIf, wFldC, wCB, wCBL, wCall0, wMeth0, wMethN0, wMakeK0, wMake0, sSeq, sNext, sNever, sRet, sRetN, sRetO, sIf, sAsg, sAsgO, sPar, sParO, sPar3, sParO3, sAsgG, gTupD, setAll, sAug, sApp, sFldI, tyAnd, tyOr, tyNot, iRg1, iRg2, iLst, iTupW, sFor, dAdd, dSub, dMul, dMulT, dDiv, dMod, dPow, dNeg, dLt, dLe, dGt, dGe, dIsN, DL.isNon, dNotN, dEq, dNe, dIx, dLen, dInt, dAbs, dMax2, dMin2, lLen, lTup, isA, envOf, envI, putD, gVar, wRev, wRevT, wIxL, wSl, wSlO, wNoP, wPart, wBag, okD_int, okD_bl, okD_non, eqD_int, eqD_bl, wipeE, wChain, wCallI0, wCallIK0, iSt, dLenO, wLRg1, wJoin, sDrop, wDGet, wDIn, wDNotIn, dE, dOwn, sDPutW, sFrzD, sFrz, sAsgN, sParN, sParN3, nE, nO, nDict, nDisp1, wFzD, NV.sv, iEnumW, wInS, wIndexS, wCatO, dInI, iKeysW, wMaxV, wCntT, lTupX]
  refine hwa _ _ ?_
  simp [wVar, wC, w2, w1, wNil, wCons, wTup, wLstO, wFz, wLk, wOwn, wAnd, wOr, wNot, wB, wYes, wIf, wFldC, wCB, wCBL, wCall0, wMeth0, wMethN0, wMakeK0, wMake0, sSeq, sNext, sNever, sRet, sRetN, sRetO, sIf, sAsg, sAsgO, sPar, sParO, sPar3, sParO3, sAsgG, gTupD, setAll, sAug, sApp, sFldI, tyAnd, tyOr, tyNot, iRg1, iRg2, iLst, iTupW, sFor, dAdd, dSub, dMul, dMulT, dDiv, dMod, dPow, dNeg, dLt, dLe, dGt, dGe, dIsN, DL.isNon, dNotN, dEq, dNe, dIx, dLen, dInt, dAbs, dMax2, dMin2, lLen, lTup, isA, envOf, envI, putD, gVar, wRev, wRevT, wIxL, wSl, wSlO, wNoP, wPart, wBag, okD_int, okD_bl, okD_non, eqD_int, eqD_bl, wipeE, wChain, wCallI0, wCallIK0, iSt, dLenO, wLRg1, wJoin, sDrop, wDGet, wDIn, wDNotIn, dE, dOwn, sDPutW, sFrzD, sFrz, sAsgN, sParN, sParN3, nE, nO, nDict, nDisp1, wFzD, NV.sv, iEnumW, wInS, wIndexS, wCatO, dInI, iKeysW, wMaxV, wCntT, lTupX, sz_line]
  exact ⟨by omega, h⟩
theorem two_l {a b : D} {P : D → Prop} (h1 : P a) (h2 : P b) : ∀ x ∈ [a, b], P x := fun x hx => by
  rcases List.mem_cons.mp hx with rfl | hx
  · exact h1
  · rw [List.mem_singleton.mp hx]
    exact h2
theorem is_mk0 (A : Ad) {p : Nat} (hp : p < 32) {env : EV} {er : ER} {q : D → Prop} (z : q (.bl true)) : wCall0 2 (S_law_is A) [] (wCons (wMkX0 (clX A p)) (wCons (wC (.int p)) wNil)) env er q := by
  simp only [wCall0, wCons, wMkX0, wC, wNil]
  exact ⟨rfl, is_call A hp z⟩
theorem okL_t (n : Nat) : okL 1 (.lst (List.replicate n (.bl true))) := okL_lst fun x hx => by
  rw [(List.mem_replicate.mp hx).2]
  exact okL_bl _
theorem hw_law_others_right (A : Ad) : ∀ ds er q, ds.length = 2 → S_law_others_right A ds er q → w_law_others_right A { nx := fun _ => q .non, rt := q, er := er } (envOf 6 ds) := by
  intro ds er q hlen h
  unfold S_law_others_right at h
  split at h
  · rename_i d m
    obtain ⟨hd, hm, hq⟩ := h
    unfold w_law_others_right
    refine asg_st (fun _ _ z => z) (Nat.le_of_ble_eq_true rfl) rfl ?_
    refine none_2 (two_l (fun qq z => test_2 A hd hm z) (fun qq z => test_2 A hd hm z)) (Nat.le_of_ble_eq_true rfl) ?_
    refine asg_st (fun _ _ z => z) (Nat.le_of_ble_eq_true rfl) rfl ?_
    refine none_4 (two_l (fun qq z => test_1 A (p := 23) (by decide) hd z) (fun qq z => test_1 A (p := 23) (by decide) hd z)) (Nat.le_of_ble_eq_true rfl) ?_
    refine asg_st (fun _ _ z => z) (Nat.le_of_ble_eq_true rfl) rfl ?_
    refine none_4 (two_l (fun qq z => test_1 A (p := 24) (by decide) hd z) (fun qq z => test_1 A (p := 24) (by decide) hd z)) (Nat.le_of_ble_eq_true rfl) ?_
    refine asg_st (fun _ _ z => z) (Nat.le_of_ble_eq_true rfl) rfl ?_
    refine none_4 (two_l (fun qq z => test_1 A (p := 29) (by decide) hd z) (fun qq z => test_1 A (p := 29) (by decide) hd z)) (Nat.le_of_ble_eq_true rfl) ?_
    refine asg_st (fun _ _ z => z) (Nat.le_of_ble_eq_true rfl) rfl ?_
    refine none_4 (two_l (fun qq z => test_1 A (p := 31) (by decide) hd z) (fun qq z => test_1 A (p := 31) (by decide) hd z)) (Nat.le_of_ble_eq_true rfl) ?_
    refine asg_st (ds := [.bl true, .bl true]) (fun _ _ z => is_mk0 A (p := 25) (by decide) (is_mk0 A (p := 26) (by decide) z)) (Nat.le_of_ble_eq_true rfl) rfl ?_
    have o := okL_t 4
    have o1 : okD (.lst (List.replicate 4 (.bl true))) := okD_of o (by decide)
    have o2 : eqD (.lst (List.replicate 4 (.bl true))) (.lst (List.replicate 4 (.bl true))) = true := eqD_refl o
    simp only [sRet, w2, wVar, wFz, wLstO, wC, wNil, List.getElem?_cons_succ, List.getElem?_cons_zero]
    refine is_mk0 A (p := 27) (by decide) (is_mk0 A (p := 28) (by decide) ?_)
    simp [wVar, wC, w2, w1, wNil, wCons, wTup, wLstO, wFz, wLk, wOwn, wAnd, wOr, wNot, wB, wYes, wIf, wFldC, wCB, wCBL, wCall0, wMeth0, wMethN0, wMakeK0, wMake0, sSeq, sNext, sNever, sRet, sRetN, sRetO, sIf, sAsg, sAsgO, sPar, sParO, sPar3, sParO3, sAsgG, gTupD, setAll, sAug, sApp, sFldI, tyAnd, tyOr, tyNot, iRg1, iRg2, iLst, iTupW, sFor, dAdd, dSub, dMul, dMulT, dDiv, dMod, dPow, dNeg, dLt, dLe, dGt, dGe, dIsN, DL.isNon, dNotN, dEq, dNe, dIx, dLen, dInt, dAbs, dMax2, dMin2, lLen, lTup, isA, envOf, envI, putD, gVar, wRev, wRevT, wIxL, wSl, wSlO, wNoP, wPart, wBag, okD_int, okD_bl, okD_non, eqD_int, eqD_bl, wipeE, wChain, wCallI0, wCallIK0, iSt, dLenO, wLRg1, wJoin, sDrop, wDGet, wDIn, wDNotIn, dE, dOwn, sDPutW, sFrzD, sFrz, sAsgN, sParN, sParN3, nE, nO, nDict, nDisp1, wFzD, NV.sv, iEnumW, wInS, wIndexS, wCatO, dInI, iKeysW, wMaxV, wCntT, lTupX, sz_line]
    have o3 : eqD (.lst [.bl true, .bl true, .bl true, .bl true]) (.lst [.bl true, .bl true, .bl true, .bl true]) = true := o2
    rw [o3]
    exact ⟨o1, hq⟩
  · exact h.elim
def bodyV (A : Ad) (f : PySem.Str) : WS :=
  (sIf (tyOr (wB (w2 dNe (wCB dReprN (wCons (wXfX (ec A) f (w2 dIx (wVar 4) (wVar 6))) wNil)) (wCB dReprN (wCons (wVar 2) wNil)))) (tyNot (wB (wCall0 2 (S_law_is A) [] (wCons (w2 dIx (wVar 4) (wVar 6)) (wCons (w2 dIx (w2 dAdd (wVar 5) (wVar 5)) (wVar 6)) wNil)))))) (sRet (wC (.bl false))) sNext)
def excL (A : Ad) (f : PySem.Str) (d : D) (pl : List Nat) : List D := (pl ++ pl).map fun p => .exc (clX A p) [(f, d)]
def intL (pl : List Nat) : List D := pl.map fun p => .int (p : Nat)
theorem ix_app {l : List D} {k : Nat} {x : D} {q : D → Prop} (h : l[k]? = some x) (z : q x) : dIx (.lst l) (.int k) q := by
  simp only [dIx]
  rw [atD_nat, h]
  exact z
theorem body_v (A : Ad) {f : PySem.Str} {pl : List Nat} {x0 x1 c3 : SV} {d : D} {k : Nat} {n : DN} (hk : k < (pl ++ pl).length) (hpl : ∀ p ∈ pl, p < 32) (hl : pl.length ≤ 100) (hd : okX 3 d)
    (h : n.nx [x0, x1, .d d, c3, .d (.lst (excL A f d pl)), .d (.lst (intL pl)), .d (.int k)]) : bodyV A f n [x0, x1, .d d, c3, .d (.lst (excL A f d pl)), .d (.lst (intL pl)), .d (.int k)] := by
  have hp : (pl ++ pl)[k] < 32 := by
    rcases List.mem_append.mp (List.getElem_mem hk) with z | z <;> exact hpl _ z
  have lk : List.lookup f [(f, d)] = some d := by simp
  have e1 : (excL A f d pl)[k]? = some (.exc (clX A (pl ++ pl)[k]) [(f, d)]) := by
    unfold excL
    rw [List.getElem?_map, List.getElem?_eq_getElem hk]
    rfl
  have e2 : (intL pl ++ intL pl)[k]? = some (.int ((pl ++ pl)[k] : Nat)) := by
    unfold intL
    rw [← List.map_append, List.getElem?_map, List.getElem?_eq_getElem hk]
    rfl
  have l1 : (intL pl).length = pl.length := by unfold intL; rw [List.length_map]
  generalize (pl ++ pl)[k] = p at *
  unfold bodyV
  simp only [sIf, tyOr, wB, w2, wCB, wCons, wXfX, wVar, wNil, List.getElem?_cons_succ, List.getElem?_cons_zero]
  refine ix_app e1 ⟨inE_cl A hp, ?_⟩
  rw [lk]
  refine repN_of hd (by decide) (repN_of hd (by decide) ⟨okX_s hd, okX_s hd, ?_⟩)
  rw [eqD_str]
  refine ⟨fun e => (by cases e), fun _ => ?_⟩
  simp only [tyNot, wB, wCall0, wCons, w2, wVar, wC, wNil, List.getElem?_cons_succ, List.getElem?_cons_zero]
  refine ix_app e1 ?_
  simp only [dAdd]
  refine ⟨by rw [l1, sz_line]; omega, ix_app e2 ⟨rfl, is_call A hp ⟨fun e => (by cases e), fun _ => h⟩⟩⟩
theorem loop_v (A : Ad) {f : PySem.Str} {pl : List Nat} {x0 x1 c3 : SV} {d : D} {n : DN} (hpl : ∀ p ∈ pl, p < 32) (hl : pl.length ≤ 100) (hd : okX 3 d) : ∀ (t i : Nat) (c : SV), i + t ≤ (pl ++ pl).length →
    (∀ c, n.nx [x0, x1, .d d, c3, .d (.lst (excL A f d pl)), .d (.lst (intL pl)), c]) → sLoop (bodyV A f) (gVar 6) n ((List.range' i t).map fun (y : Nat) => D.int (0 + y)) [x0, x1, .d d, c3, .d (.lst (excL A f d pl)), .d (.lst (intL pl)), c]
  | 0, i, c, _, h => h c
  | t + 1, i, c, e, h => by
    have ih := fun c => loop_v A (x0 := x0) (x1 := x1) (c3 := c3) (n := n) hpl hl hd t (i + 1) c (by omega) h
    rw [List.range'_succ, List.map_cons, sLoop]
    have z : (0 : Int) + (i : Nat) = (i : Nat) := by omega
    rw [z]
    refine body_v A (n := _) (k := i) (by omega) hpl hl hd ?_
    exact ih _
def e39 : Int := 10 ^ 39 + 7
theorem e39_d : e39 = 1000000000000000000000000000000000000007 := by decide +kernel
theorem w39 {env : EV} {er : ER} {q : D → Prop} (z : q (.int e39)) : w2 dAdd (w2 dPow (wC (.int 10)) (wC (.int 39))) (wC (.int 7)) env er q := by
  simp only [w2, wC, dPow, dAdd]
  exact ⟨⟨by omega, by omega, by decide⟩, z⟩
def thingsL : List D := [.int e39, .non, .str "x", .tup [.int 1, .str "a"], .lst [.int 2], .dct [], .bl true, .int (-5), .tup [.str "ab", .tup []], .str ""]
theorem okX_of {d : D} {p : PyData} (e : pdX d = some p) (h : (p.showable && decide (p.shown.length ≤ 200) && decide (p.depth ≤ 3) && p.shown.cps.toList.all fun c => decide (c < 1114112)) = true) : okX 3 d := by
  simp only [Bool.and_eq_true, decide_eq_true_eq, List.all_eq_true] at h
  obtain ⟨⟨⟨h1, h2⟩, h3⟩, h4⟩ := h
  exact ⟨p, e, h1, h2, h3, h4⟩
theorem g_thing {d : D} (h : d ∈ thingsL) : okX 3 d := by
  unfold thingsL at h
  rw [e39_d] at h
  simp only [List.mem_cons, List.not_mem_nil, or_false] at h
  rcases h with rfl | rfl | rfl | rfl | rfl | rfl | rfl | rfl | rfl | rfl
  all_goals exact okX_of rfl (by decide +kernel)
theorem hw_law_right (A : Ad) : ∀ ds er q, ds.length = 1 → S_law_right A ds er q → w_law_right A { nx := fun _ => q .non, rt := q, er := er } (envOf 7 ds) := by
  intro ds er q hlen h
  unfold S_law_right at h
  split at h
  · rename_i b
    unfold w_law_right
    refine asg_st (ds := thingsL) (fun er qq z => w39 ?_) (Nat.le_of_ble_eq_true rfl) rfl ?_
    · simp [wVar, wC, w2, w1, wNil, wCons, wTup, wLstO, wFz, wLk, wOwn, wAnd, wOr, wNot, wB, wYes, wIf, wFldC, wCB, wCBL, wCall0, wMeth0, wMethN0, wMakeK0, wMake0, sSeq, sNext, sNever, sRet, sRetN, sRetO, sIf, sAsg, sAsgO, sPar, sParO, sPar3, sParO3, sAsgG, gTupD, setAll, sAug, sApp, sFldI, tyAnd, tyOr, tyNot, iRg1, iRg2, iLst, iTupW, sFor, dAdd, dSub, dMul, dMulT, dDiv, dMod, dPow, dNeg, dLt, dLe, dGt, dGe, dIsN, DL.isNon, dNotN, dEq, dNe, dIx, dLen, dInt, dAbs, dMax2, dMin2, lLen, lTup, isA, envOf, envI, putD, gVar, wRev, wRevT, wIxL, wSl, wSlO, wNoP, wPart, wBag, okD_int, okD_bl, okD_non, eqD_int, eqD_bl, wipeE, wChain, wCallI0, wCallIK0, iSt, dLenO, wLRg1, wJoin, sDrop, wDGet, wDIn, wDNotIn, dE, dOwn, sDPutW, sFrzD, sFrz, sAsgN, sParN, sParN3, nE, nO, nDict, nDisp1, wFzD, NV.sv, iEnumW, wInS, wIndexS, wCatO, dInI, iKeysW, wMaxV, wCntT, lTupX, sz_line]
      exact z
    · have l0 : (0 : Nat) < thingsL.length ∧ thingsL.length ≤ 1000 := ⟨by decide, by decide⟩
      generalize hT : thingsL = T at *
      simp [wVar, wC, w2, w1, wNil, wCons, wTup, wLstO, wFz, wLk, wOwn, wAnd, wOr, wNot, wB, wYes, wIf, wFldC, wCB, wCBL, wCall0, wMeth0, wMethN0, wMakeK0, wMake0, sSeq, sNext, sNever, sRet, sRetN, sRetO, sIf, sAsg, sAsgO, sPar, sParO, sPar3, sParO3, sAsgG, gTupD, setAll, sAug, sApp, sFldI, tyAnd, tyOr, tyNot, iRg1, iRg2, iLst, iTupW, sFor, dAdd, dSub, dMul, dMulT, dDiv, dMod, dPow, dNeg, dLt, dLe, dGt, dGe, dIsN, DL.isNon, dNotN, dEq, dNe, dIx, dLen, dInt, dAbs, dMax2, dMin2, lLen, lTup, isA, envOf, envI, putD, gVar, wRev, wRevT, wIxL, wSl, wSlO, wNoP, wPart, wBag, okD_int, okD_bl, okD_non, eqD_int, eqD_bl, wipeE, wChain, wCallI0, wCallIK0, iSt, dLenO, wLRg1, wJoin, sDrop, wDGet, wDIn, wDNotIn, dE, dOwn, sDPutW, sFrzD, sFrz, sAsgN, sParN, sParN3, nE, nO, nDict, nDisp1, wFzD, NV.sv, iEnumW, wInS, wIndexS, wCatO, dInI, iKeysW, wMaxV, wCntT, lTupX, S_law_one, sz_line]
      refine ⟨l0.1, l0.2, fun d hd => ⟨l0.1, l0.2, fun m hm => ?_⟩⟩
      have od : okX 3 d := g_thing (by rw [hT]; exact hd)
      have om : okX 3 m := g_thing (by rw [hT]; exact hm)
      show sLoop (bodyV A "value") (gVar 6) _ (rngD 0 36) [.d (.bag b), .d (.lst T), .d d, .d m, .d (.lst (excL A "value" d plV)), .d (.lst (intL plV)), .un]
      rw [rngD_eq]
      refine loop_v A (by decide) (by decide) od 36 0 .un (by decide) fun c => ?_
      simp [wVar, wC, w2, w1, wNil, wCons, wTup, wLstO, wFz, wLk, wOwn, wAnd, wOr, wNot, wB, wYes, wIf, wFldC, wCB, wCBL, wCall0, wMeth0, wMethN0, wMakeK0, wMake0, sSeq, sNext, sNever, sRet, sRetN, sRetO, sIf, sAsg, sAsgO, sPar, sParO, sPar3, sParO3, sAsgG, gTupD, setAll, sAug, sApp, sFldI, tyAnd, tyOr, tyNot, iRg1, iRg2, iLst, iTupW, sFor, dAdd, dSub, dMul, dMulT, dDiv, dMod, dPow, dNeg, dLt, dLe, dGt, dGe, dIsN, DL.isNon, dNotN, dEq, dNe, dIx, dLen, dInt, dAbs, dMax2, dMin2, lLen, lTup, isA, envOf, envI, putD, gVar, wRev, wRevT, wIxL, wSl, wSlO, wNoP, wPart, wBag, okD_int, okD_bl, okD_non, eqD_int, eqD_bl, wipeE, wChain, wCallI0, wCallIK0, iSt, dLenO, wLRg1, wJoin, sDrop, wDGet, wDIn, wDNotIn, dE, dOwn, sDPutW, sFrzD, sFrz, sAsgN, sParN, sParN3, nE, nO, nDict, nDisp1, wFzD, NV.sv, iEnumW, wInS, wIndexS, wCatO, dInI, iKeysW, wMaxV, wCntT, lTupX, sz_line]
      show sLoop (bodyV A "index") (gVar 6) _ (rngD 0 10) [.d (.bag b), .d (.lst T), .d d, .d m, .d (.lst (excL A "index" d plI)), .d (.lst (intL plI)), c]
      rw [rngD_eq]
      refine loop_v A (by decide) (by decide) od 10 0 c (by decide) fun c => ?_
      simp [wVar, wC, w2, w1, wNil, wCons, wTup, wLstO, wFz, wLk, wOwn, wAnd, wOr, wNot, wB, wYes, wIf, wFldC, wCB, wCBL, wCall0, wMeth0, wMethN0, wMakeK0, wMake0, sSeq, sNext, sNever, sRet, sRetN, sRetO, sIf, sAsg, sAsgO, sPar, sParO, sPar3, sParO3, sAsgG, gTupD, setAll, sAug, sApp, sFldI, tyAnd, tyOr, tyNot, iRg1, iRg2, iLst, iTupW, sFor, dAdd, dSub, dMul, dMulT, dDiv, dMod, dPow, dNeg, dLt, dLe, dGt, dGe, dIsN, DL.isNon, dNotN, dEq, dNe, dIx, dLen, dInt, dAbs, dMax2, dMin2, lLen, lTup, isA, envOf, envI, putD, gVar, wRev, wRevT, wIxL, wSl, wSlO, wNoP, wPart, wBag, okD_int, okD_bl, okD_non, eqD_int, eqD_bl, wipeE, wChain, wCallI0, wCallIK0, iSt, dLenO, wLRg1, wJoin, sDrop, wDGet, wDIn, wDNotIn, dE, dOwn, sDPutW, sFrzD, sFrz, sAsgN, sParN, sParN3, nE, nO, nDict, nDisp1, wFzD, NV.sv, iEnumW, wInS, wIndexS, wCatO, dInI, iKeysW, wMaxV, wCntT, lTupX]
      exact ⟨od, om, h⟩
  · exact h.elim
theorem add_st3 {i : Nat} {env env' : EV} {l ds : List D} {wa : WA} {rest : WS} {n : DN} (hi : env[i]? = some (.d (.lst l))) (hwa : ∀ (er : ER) (qq : List D → Prop), qq ds → wa env er qq) (hl : l.length + ds.length ≤ 1000) (he : env.set i (.d (.lst (l ++ ds))) = env') (h : rest n env') :
    sSeq (sAsg i (w2 dAdd (wVar i) (wFz (wLstO wa)))) rest n env := by
  subst he
  simp [wVar, wC, w2, w1, wNil, wCons, wTup, wLstO, wFz, wLk, wOwn, wAnd, wOr, wNot, wB, wYes, wIf, wFldC, wCB, wCBL, wCall0, wMeth0, wMethN0, wMakeK0, wMake0, sSeq, sNext, sNever, sRet, sRetN, sRetO, sIf, sAsg, sAsgO, sPar, sParO, sPar3, sParO3, sAsgG, gTupD, setAll, sAug, sApp, sFldI, tyAnd, tyOr, tyNot, iRg1, iRg2, iLst, iTupW, sFor, dAdd, dSub, dMul, dMulT, dDiv, dMod, dPow, dNeg, dLt, dLe, dGt, dGe, dIsN, DL.isNon, dNotN, dEq, dNe, dIx, dLen, dInt, dAbs, dMax2, dMin2, lLen, lTup, isA, envOf, envI, putD, gVar, wRev, wRevT, wIxL, wSl, wSlO, wNoP, wPart, wBag, okD_int, okD_bl, okD_non, eqD_int, eqD_bl, wipeE, wChain, wCallI0, wCallIK0, iSt, dLenO, wLRg1, wJoin, sDrop, wDGet, wDIn, wDNotIn, dE, dOwn, sDPutW, sFrzD, sFrz, sAsgN, sParN, sParN3, nE, nO, nDict, nDisp1, wFzD, NV.sv, iEnumW, wInS, wIndexS, wCatO, dInI, iKeysW, wMaxV, wCntT, lTupX, hi]
  refine hwa _ _ ?_
  simp [wVar, wC, w2, w1, wNil, wCons, wTup, wLstO, wFz, wLk, wOwn, wAnd, wOr, wNot, wB, wYes, wIf, wFldC, wCB, wCBL, wCall0, wMeth0, wMethN0, wMakeK0, wMake0, sSeq, sNext, sNever, sRet, sRetN, sRetO, sIf, sAsg, sAsgO, sPar, sParO, sPar3, sParO3, sAsgG, gTupD, setAll, sAug, sApp, sFldI, tyAnd, tyOr, tyNot, iRg1, iRg2, iLst, iTupW, sFor, dAdd, dSub, dMul, dMulT, dDiv, dMod, dPow, dNeg, dLt, dLe, dGt, dGe, dIsN, DL.isNon, dNotN, dEq, dNe, dIx, dLen, dInt, dAbs, dMax2, dMin2, lLen, lTup, isA, envOf, envI, putD, gVar, wRev, wRevT, wIxL, wSl, wSlO, wNoP, wPart, wBag, okD_int, okD_bl, okD_non, eqD_int, eqD_bl, wipeE, wChain, wCallI0, wCallIK0, iSt, dLenO, wLRg1, wJoin, sDrop, wDGet, wDIn, wDNotIn, dE, dOwn, sDPutW, sFrzD, sFrz, sAsgN, sParN, sParN3, nE, nO, nDict, nDisp1, wFzD, NV.sv, iEnumW, wInS, wIndexS, wCatO, dInI, iKeysW, wMaxV, wCntT, lTupX, sz_line]
  exact ⟨by omega, by omega, h⟩
theorem lim_st {x0 c : SV} {l : List D} {wa : WA} {rest : WS} {n : DN} (hwa : ∀ (env : EV) (er : ER) (qq : List D → Prop), qq l → wa env er qq) (hl : l.length ≤ 1000) (ho : okX 3 (.lst l)) (h : rest n [x0, .d (.lst l), c]) :
    sSeq (sIf (wB (w2 dNe (wCB dReprN (wCons (wVar 1) wNil)) (wCB dReprN (wCons (wFz (wLstO wa)) wNil)))) (sRet (wC (.bl false))) sNext) rest n [x0, .d (.lst l), c] := by
  simp only [sSeq, sIf, wB, w2, wCB, wCons, wVar, wNil, wFz, wLstO, List.getElem?_cons_succ, List.getElem?_cons_zero]
  refine repN_of ho (by decide) (hwa _ _ _ ⟨by rw [sz_line]; omega, repN_of ho (by decide) ⟨okX_s ho, okX_s ho, ?_⟩⟩)
  rw [eqD_str]
  exact ⟨fun e => (by cases e), fun _ => h⟩
def limL : List D := [.int 3, .int 8, .int 4, .int 12, .int 4, .int 4, .int 20] ++ [.int 6, .int 8, .int 60, .int 10000, .int 10000000000000000000000000000000000000000, .int 2000, .int 100]
theorem ok_lim : okX 3 (.lst limL) := okX_of rfl (by decide +kernel)
theorem hw_law (A : Ad) : ∀ ds er q, ds.length = 1 → S_law A ds er q → w_law A { nx := fun _ => q .non, rt := q, er := er } (envOf 3 ds) := by
  intro ds er q hlen h
  obtain ⟨ns, rfl, hl, hq⟩ := h
  unfold w_law
  refine asg_st (fun _ _ z => z) (Nat.le_of_ble_eq_true rfl) rfl ?_
  refine add_st3 rfl (fun _ _ z => z) (Nat.le_of_ble_eq_true rfl) rfl ?_
  refine lim_st (l := limL) (fun _ _ _ z => ⟨⟨by omega, by omega, by decide⟩, z⟩) (by decide) ok_lim ?_
  generalize limL = L
  simp [wVar, wC, w2, w1, wNil, wCons, wTup, wLstO, wFz, wLk, wOwn, wAnd, wOr, wNot, wB, wYes, wIf, wFldC, wCB, wCBL, wCall0, wMeth0, wMethN0, wMakeK0, wMake0, sSeq, sNext, sNever, sRet, sRetN, sRetO, sIf, sAsg, sAsgO, sPar, sParO, sPar3, sParO3, sAsgG, gTupD, setAll, sAug, sApp, sFldI, tyAnd, tyOr, tyNot, iRg1, iRg2, iLst, iTupW, sFor, dAdd, dSub, dMul, dMulT, dDiv, dMod, dPow, dNeg, dLt, dLe, dGt, dGe, dIsN, DL.isNon, dNotN, dEq, dNe, dIx, dLen, dInt, dAbs, dMax2, dMin2, lLen, lTup, isA, envOf, envI, putD, gVar, wRev, wRevT, wIxL, wSl, wSlO, wNoP, wPart, wBag, okD_int, okD_bl, okD_non, eqD_int, eqD_bl, wipeE, wChain, wCallI0, wCallIK0, iSt, dLenO, wLRg1, wJoin, sDrop, wDGet, wDIn, wDNotIn, dE, dOwn, sDPutW, sFrzD, sFrz, sAsgN, sParN, sParN3, nE, nO, nDict, nDisp1, wFzD, NV.sv, iEnumW, wInS, wIndexS, wCatO, dInI, iKeysW, wMaxV, wCntT, lTupX, wLc]
  generalize hN : (if 2 < if 6 < (ns.length : Int) then 6 else (ns.length : Int) then if 6 < (ns.length : Int) then 6 else (ns.length : Int) else 2) = N
  have hN2 : 0 ≤ N ∧ N ≤ 6 := by
    rw [← hN]
    split <;> split <;> omega
  refine ⟨by omega, by omega, ?_⟩
  unfold rngD
  refine DL.comp_map (c := fun (i : Nat) => D.int (0 + i)) (l := List.range N.toNat) (ev := fun i => [.d (.scr ns), .d (.lst L), .d (.int (0 + (i : Nat)))]) (f := fun _ => .bl true) (fun _ _ _ h => h) (fun i _ Q h => ?_) ?_ ?_
  · exact ⟨rfl, by omega, fun a => ⟨rfl, h⟩⟩
  · rw [List.length_range, show sizeLine = 16777216 from rfl]
    omega
  · refine all_map (fun _ => true) _ _ ?_
    have e : (List.range N.toNat).all (fun _ => true) = true := by simp
    rw [e]
    exact hq
end Lw
namespace Lw
open PySem L2 DL
open PySem.Spec PyProof.Rows
structure Fa where
  a_Refused_init : PySem.Addr
  d_Refused_init : PySem.FuncData
  a_OtherSystem_init : PySem.Addr
  d_OtherSystem_init : PySem.FuncData
  a_OtherNames_init : PySem.Addr
  d_OtherNames_init : PySem.FuncData
  a_TooFew_init : PySem.Addr
  d_TooFew_init : PySem.FuncData
  a_TooMany_init : PySem.Addr
  d_TooMany_init : PySem.FuncData
  a_law_classes : PySem.Addr
  d_law_classes : PySem.FuncData
  a_law_is : PySem.Addr
  d_law_is : PySem.FuncData
  a_law_others_right : PySem.Addr
  d_law_others_right : PySem.FuncData
  a_law_draw : PySem.Addr
  d_law_draw : PySem.FuncData
  a_law_one : PySem.Addr
  d_law_one : PySem.FuncData
  a_InvalidStep_init : PySem.Addr
  d_InvalidStep_init : PySem.FuncData
  a_InvalidNumber_init : PySem.Addr
  d_InvalidNumber_init : PySem.FuncData
  a_InvalidNumbers_init : PySem.Addr
  d_InvalidNumbers_init : PySem.FuncData
  a_InvalidDigits_init : PySem.Addr
  d_InvalidDigits_init : PySem.FuncData
  a_InvalidMoves_init : PySem.Addr
  d_InvalidMoves_init : PySem.FuncData
  a_InvalidSigns_init : PySem.Addr
  d_InvalidSigns_init : PySem.FuncData
  a_InvalidName_init : PySem.Addr
  d_InvalidName_init : PySem.FuncData
  a_InvalidWish_init : PySem.Addr
  d_InvalidWish_init : PySem.FuncData
  a_InvalidText_init : PySem.Addr
  d_InvalidText_init : PySem.FuncData
  a_InvalidGood_init : PySem.Addr
  d_InvalidGood_init : PySem.FuncData
  a_InvalidLine_init : PySem.Addr
  d_InvalidLine_init : PySem.FuncData
  a_NotASystem_init : PySem.Addr
  d_NotASystem_init : PySem.FuncData
  a_NotARow_init : PySem.Addr
  d_NotARow_init : PySem.FuncData
  a_NotAWish_init : PySem.Addr
  d_NotAWish_init : PySem.FuncData
  a_NotABook_init : PySem.Addr
  d_NotABook_init : PySem.FuncData
  a_NotAMachine_init : PySem.Addr
  d_NotAMachine_init : PySem.FuncData
  a_UnknownRow_init : PySem.Addr
  d_UnknownRow_init : PySem.FuncData
  a_UnknownSaying_init : PySem.Addr
  d_UnknownSaying_init : PySem.FuncData
  a_law_values : PySem.Addr
  d_law_values : PySem.FuncData
  a_InvalidRule_init : PySem.Addr
  d_InvalidRule_init : PySem.FuncData
  a_InvalidRows_init : PySem.Addr
  d_InvalidRows_init : PySem.FuncData
  a_InvalidSayings_init : PySem.Addr
  d_InvalidSayings_init : PySem.FuncData
  a_InvalidGuards_init : PySem.Addr
  d_InvalidGuards_init : PySem.FuncData
  a_InvalidDeed_init : PySem.Addr
  d_InvalidDeed_init : PySem.FuncData
  a_law_indexes : PySem.Addr
  d_law_indexes : PySem.FuncData
  a_law_right : PySem.Addr
  d_law_right : PySem.FuncData
  a_law_bag : PySem.Addr
  d_law_bag : PySem.FuncData
  a_law : PySem.Addr
  d_law : PySem.FuncData
variable [Tbl]
structure Tbs (mg : PySem.Str → Option PySem.Value) (base : Heap) (F : Fa) : Prop where
structure Txt (K : PySem.W.Frag) (mg : PySem.Str → Option PySem.Value) (A : Ad) (F : Fa) : Prop where
  F_Refused_init : Fun K "__init__" "Refused.__init__" s_Refused_init F.a_Refused_init F.d_Refused_init
  b_Refused_init : Binds K F.d_Refused_init ["self", "deed", "shown"] []
  oe_Refused : OexB K A.c_Refused
  in_Refused : PySem.W.findIn K (.ref A.c_Refused) "__init__" = some (some (.ref F.a_Refused_init))
  ti_Refused : PySem.W.typeIn K (.ref F.a_Refused_init) = some (.type "function")
  nf_Refused : PySem.W.findIn K (.ref A.c_Refused) "deed" = some none
  nf2_Refused : PySem.W.findIn K (.ref A.c_Refused) "shown" = some none
  F_OtherSystem_init : Fun K "__init__" "OtherSystem.__init__" s_OtherSystem_init F.a_OtherSystem_init F.d_OtherSystem_init
  b_OtherSystem_init : Binds K F.d_OtherSystem_init ["self", "given"] []
  oe_OtherSystem : OexB K A.c_OtherSystem
  in_OtherSystem : PySem.W.findIn K (.ref A.c_OtherSystem) "__init__" = some (some (.ref F.a_OtherSystem_init))
  ti_OtherSystem : PySem.W.typeIn K (.ref F.a_OtherSystem_init) = some (.type "function")
  nf_OtherSystem : PySem.W.findIn K (.ref A.c_OtherSystem) "given" = some none
  F_OtherNames_init : Fun K "__init__" "OtherNames.__init__" s_OtherNames_init F.a_OtherNames_init F.d_OtherNames_init
  b_OtherNames_init : Binds K F.d_OtherNames_init ["self", "given"] []
  oe_OtherNames : OexB K A.c_OtherNames
  in_OtherNames : PySem.W.findIn K (.ref A.c_OtherNames) "__init__" = some (some (.ref F.a_OtherNames_init))
  ti_OtherNames : PySem.W.typeIn K (.ref F.a_OtherNames_init) = some (.type "function")
  nf_OtherNames : PySem.W.findIn K (.ref A.c_OtherNames) "given" = some none
  F_TooFew_init : Fun K "__init__" "TooFew.__init__" s_TooFew_init F.a_TooFew_init F.d_TooFew_init
  b_TooFew_init : Binds K F.d_TooFew_init ["self", "many"] []
  oe_TooFew : OexB K A.c_TooFew
  in_TooFew : PySem.W.findIn K (.ref A.c_TooFew) "__init__" = some (some (.ref F.a_TooFew_init))
  ti_TooFew : PySem.W.typeIn K (.ref F.a_TooFew_init) = some (.type "function")
  nf_TooFew : PySem.W.findIn K (.ref A.c_TooFew) "many" = some none
  F_TooMany_init : Fun K "__init__" "TooMany.__init__" s_TooMany_init F.a_TooMany_init F.d_TooMany_init
  b_TooMany_init : Binds K F.d_TooMany_init ["self", "limit"] []
  oe_TooMany : OexB K A.c_TooMany
  in_TooMany : PySem.W.findIn K (.ref A.c_TooMany) "__init__" = some (some (.ref F.a_TooMany_init))
  ti_TooMany : PySem.W.typeIn K (.ref F.a_TooMany_init) = some (.type "function")
  nf_TooMany : PySem.W.findIn K (.ref A.c_TooMany) "limit" = some none
  F_law_classes : Fun K "_law_classes" "_law_classes" s_law_classes F.a_law_classes F.d_law_classes
  b_law_classes : Binds K F.d_law_classes ["_law_e"] []
  g_law_classes : mg "_law_classes" = some (.ref F.a_law_classes)
  F_law_is : Fun K "_law_is" "_law_is" s_law_is F.a_law_is F.d_law_is
  b_law_is : Binds K F.d_law_is ["_law_e", "_law_at"] []
  g_law_is : mg "_law_is" = some (.ref F.a_law_is)
  F_law_others_right : Fun K "_law_others_right" "_law_others_right" s_law_others_right F.a_law_others_right F.d_law_others_right
  b_law_others_right : Binds K F.d_law_others_right ["_law_thing", "_law_mate"] []
  g_law_others_right : mg "_law_others_right" = some (.ref F.a_law_others_right)
  F_law_draw : Fun K "_law_draw" "_law_draw" s_law_draw F.a_law_draw F.d_law_draw
  b_law_draw : Binds K F.d_law_draw ["_law_bag_here", "_law_wide"] []
  g_law_draw : mg "_law_draw" = some (.ref F.a_law_draw)
  F_law_one : Fun K "_law_one" "_law_one" s_law_one F.a_law_one F.d_law_one
  b_law_one : Binds K F.d_law_one ["_law_bag_here", "_law_some"] []
  g_law_one : mg "_law_one" = some (.ref F.a_law_one)
  F_InvalidStep_init : Fun K "__init__" "InvalidStep.__init__" s_InvalidStep_init F.a_InvalidStep_init F.d_InvalidStep_init
  b_InvalidStep_init : Binds K F.d_InvalidStep_init ["self", "value"] []
  oe_InvalidStep : OexB K A.c_InvalidStep
  in_InvalidStep : PySem.W.findIn K (.ref A.c_InvalidStep) "__init__" = some (some (.ref F.a_InvalidStep_init))
  ti_InvalidStep : PySem.W.typeIn K (.ref F.a_InvalidStep_init) = some (.type "function")
  nf_InvalidStep : PySem.W.findIn K (.ref A.c_InvalidStep) "value" = some none
  F_InvalidNumber_init : Fun K "__init__" "InvalidNumber.__init__" s_InvalidNumber_init F.a_InvalidNumber_init F.d_InvalidNumber_init
  b_InvalidNumber_init : Binds K F.d_InvalidNumber_init ["self", "value"] []
  oe_InvalidNumber : OexB K A.c_InvalidNumber
  in_InvalidNumber : PySem.W.findIn K (.ref A.c_InvalidNumber) "__init__" = some (some (.ref F.a_InvalidNumber_init))
  ti_InvalidNumber : PySem.W.typeIn K (.ref F.a_InvalidNumber_init) = some (.type "function")
  nf_InvalidNumber : PySem.W.findIn K (.ref A.c_InvalidNumber) "value" = some none
  F_InvalidNumbers_init : Fun K "__init__" "InvalidNumbers.__init__" s_InvalidNumbers_init F.a_InvalidNumbers_init F.d_InvalidNumbers_init
  b_InvalidNumbers_init : Binds K F.d_InvalidNumbers_init ["self", "value"] []
  oe_InvalidNumbers : OexB K A.c_InvalidNumbers
  in_InvalidNumbers : PySem.W.findIn K (.ref A.c_InvalidNumbers) "__init__" = some (some (.ref F.a_InvalidNumbers_init))
  ti_InvalidNumbers : PySem.W.typeIn K (.ref F.a_InvalidNumbers_init) = some (.type "function")
  nf_InvalidNumbers : PySem.W.findIn K (.ref A.c_InvalidNumbers) "value" = some none
  F_InvalidDigits_init : Fun K "__init__" "InvalidDigits.__init__" s_InvalidDigits_init F.a_InvalidDigits_init F.d_InvalidDigits_init
  b_InvalidDigits_init : Binds K F.d_InvalidDigits_init ["self", "value"] []
  oe_InvalidDigits : OexB K A.c_InvalidDigits
  in_InvalidDigits : PySem.W.findIn K (.ref A.c_InvalidDigits) "__init__" = some (some (.ref F.a_InvalidDigits_init))
  ti_InvalidDigits : PySem.W.typeIn K (.ref F.a_InvalidDigits_init) = some (.type "function")
  nf_InvalidDigits : PySem.W.findIn K (.ref A.c_InvalidDigits) "value" = some none
  F_InvalidMoves_init : Fun K "__init__" "InvalidMoves.__init__" s_InvalidMoves_init F.a_InvalidMoves_init F.d_InvalidMoves_init
  b_InvalidMoves_init : Binds K F.d_InvalidMoves_init ["self", "value"] []
  oe_InvalidMoves : OexB K A.c_InvalidMoves
  in_InvalidMoves : PySem.W.findIn K (.ref A.c_InvalidMoves) "__init__" = some (some (.ref F.a_InvalidMoves_init))
  ti_InvalidMoves : PySem.W.typeIn K (.ref F.a_InvalidMoves_init) = some (.type "function")
  nf_InvalidMoves : PySem.W.findIn K (.ref A.c_InvalidMoves) "value" = some none
  F_InvalidSigns_init : Fun K "__init__" "InvalidSigns.__init__" s_InvalidSigns_init F.a_InvalidSigns_init F.d_InvalidSigns_init
  b_InvalidSigns_init : Binds K F.d_InvalidSigns_init ["self", "value"] []
  oe_InvalidSigns : OexB K A.c_InvalidSigns
  in_InvalidSigns : PySem.W.findIn K (.ref A.c_InvalidSigns) "__init__" = some (some (.ref F.a_InvalidSigns_init))
  ti_InvalidSigns : PySem.W.typeIn K (.ref F.a_InvalidSigns_init) = some (.type "function")
  nf_InvalidSigns : PySem.W.findIn K (.ref A.c_InvalidSigns) "value" = some none
  F_InvalidName_init : Fun K "__init__" "InvalidName.__init__" s_InvalidName_init F.a_InvalidName_init F.d_InvalidName_init
  b_InvalidName_init : Binds K F.d_InvalidName_init ["self", "value"] []
  oe_InvalidName : OexB K A.c_InvalidName
  in_InvalidName : PySem.W.findIn K (.ref A.c_InvalidName) "__init__" = some (some (.ref F.a_InvalidName_init))
  ti_InvalidName : PySem.W.typeIn K (.ref F.a_InvalidName_init) = some (.type "function")
  nf_InvalidName : PySem.W.findIn K (.ref A.c_InvalidName) "value" = some none
  F_InvalidWish_init : Fun K "__init__" "InvalidWish.__init__" s_InvalidWish_init F.a_InvalidWish_init F.d_InvalidWish_init
  b_InvalidWish_init : Binds K F.d_InvalidWish_init ["self", "value"] []
  oe_InvalidWish : OexB K A.c_InvalidWish
  in_InvalidWish : PySem.W.findIn K (.ref A.c_InvalidWish) "__init__" = some (some (.ref F.a_InvalidWish_init))
  ti_InvalidWish : PySem.W.typeIn K (.ref F.a_InvalidWish_init) = some (.type "function")
  nf_InvalidWish : PySem.W.findIn K (.ref A.c_InvalidWish) "value" = some none
  F_InvalidText_init : Fun K "__init__" "InvalidText.__init__" s_InvalidText_init F.a_InvalidText_init F.d_InvalidText_init
  b_InvalidText_init : Binds K F.d_InvalidText_init ["self", "value"] []
  oe_InvalidText : OexB K A.c_InvalidText
  in_InvalidText : PySem.W.findIn K (.ref A.c_InvalidText) "__init__" = some (some (.ref F.a_InvalidText_init))
  ti_InvalidText : PySem.W.typeIn K (.ref F.a_InvalidText_init) = some (.type "function")
  nf_InvalidText : PySem.W.findIn K (.ref A.c_InvalidText) "value" = some none
  F_InvalidGood_init : Fun K "__init__" "InvalidGood.__init__" s_InvalidGood_init F.a_InvalidGood_init F.d_InvalidGood_init
  b_InvalidGood_init : Binds K F.d_InvalidGood_init ["self", "value"] []
  oe_InvalidGood : OexB K A.c_InvalidGood
  in_InvalidGood : PySem.W.findIn K (.ref A.c_InvalidGood) "__init__" = some (some (.ref F.a_InvalidGood_init))
  ti_InvalidGood : PySem.W.typeIn K (.ref F.a_InvalidGood_init) = some (.type "function")
  nf_InvalidGood : PySem.W.findIn K (.ref A.c_InvalidGood) "value" = some none
  F_InvalidLine_init : Fun K "__init__" "InvalidLine.__init__" s_InvalidLine_init F.a_InvalidLine_init F.d_InvalidLine_init
  b_InvalidLine_init : Binds K F.d_InvalidLine_init ["self", "value"] []
  oe_InvalidLine : OexB K A.c_InvalidLine
  in_InvalidLine : PySem.W.findIn K (.ref A.c_InvalidLine) "__init__" = some (some (.ref F.a_InvalidLine_init))
  ti_InvalidLine : PySem.W.typeIn K (.ref F.a_InvalidLine_init) = some (.type "function")
  nf_InvalidLine : PySem.W.findIn K (.ref A.c_InvalidLine) "value" = some none
  F_NotASystem_init : Fun K "__init__" "NotASystem.__init__" s_NotASystem_init F.a_NotASystem_init F.d_NotASystem_init
  b_NotASystem_init : Binds K F.d_NotASystem_init ["self", "value"] []
  oe_NotASystem : OexB K A.c_NotASystem
  in_NotASystem : PySem.W.findIn K (.ref A.c_NotASystem) "__init__" = some (some (.ref F.a_NotASystem_init))
  ti_NotASystem : PySem.W.typeIn K (.ref F.a_NotASystem_init) = some (.type "function")
  nf_NotASystem : PySem.W.findIn K (.ref A.c_NotASystem) "value" = some none
  F_NotARow_init : Fun K "__init__" "NotARow.__init__" s_NotARow_init F.a_NotARow_init F.d_NotARow_init
  b_NotARow_init : Binds K F.d_NotARow_init ["self", "value"] []
  oe_NotARow : OexB K A.c_NotARow
  in_NotARow : PySem.W.findIn K (.ref A.c_NotARow) "__init__" = some (some (.ref F.a_NotARow_init))
  ti_NotARow : PySem.W.typeIn K (.ref F.a_NotARow_init) = some (.type "function")
  nf_NotARow : PySem.W.findIn K (.ref A.c_NotARow) "value" = some none
  F_NotAWish_init : Fun K "__init__" "NotAWish.__init__" s_NotAWish_init F.a_NotAWish_init F.d_NotAWish_init
  b_NotAWish_init : Binds K F.d_NotAWish_init ["self", "value"] []
  oe_NotAWish : OexB K A.c_NotAWish
  in_NotAWish : PySem.W.findIn K (.ref A.c_NotAWish) "__init__" = some (some (.ref F.a_NotAWish_init))
  ti_NotAWish : PySem.W.typeIn K (.ref F.a_NotAWish_init) = some (.type "function")
  nf_NotAWish : PySem.W.findIn K (.ref A.c_NotAWish) "value" = some none
  F_NotABook_init : Fun K "__init__" "NotABook.__init__" s_NotABook_init F.a_NotABook_init F.d_NotABook_init
  b_NotABook_init : Binds K F.d_NotABook_init ["self", "value"] []
  oe_NotABook : OexB K A.c_NotABook
  in_NotABook : PySem.W.findIn K (.ref A.c_NotABook) "__init__" = some (some (.ref F.a_NotABook_init))
  ti_NotABook : PySem.W.typeIn K (.ref F.a_NotABook_init) = some (.type "function")
  nf_NotABook : PySem.W.findIn K (.ref A.c_NotABook) "value" = some none
  F_NotAMachine_init : Fun K "__init__" "NotAMachine.__init__" s_NotAMachine_init F.a_NotAMachine_init F.d_NotAMachine_init
  b_NotAMachine_init : Binds K F.d_NotAMachine_init ["self", "value"] []
  oe_NotAMachine : OexB K A.c_NotAMachine
  in_NotAMachine : PySem.W.findIn K (.ref A.c_NotAMachine) "__init__" = some (some (.ref F.a_NotAMachine_init))
  ti_NotAMachine : PySem.W.typeIn K (.ref F.a_NotAMachine_init) = some (.type "function")
  nf_NotAMachine : PySem.W.findIn K (.ref A.c_NotAMachine) "value" = some none
  F_UnknownRow_init : Fun K "__init__" "UnknownRow.__init__" s_UnknownRow_init F.a_UnknownRow_init F.d_UnknownRow_init
  b_UnknownRow_init : Binds K F.d_UnknownRow_init ["self", "value"] []
  oe_UnknownRow : OexB K A.c_UnknownRow
  in_UnknownRow : PySem.W.findIn K (.ref A.c_UnknownRow) "__init__" = some (some (.ref F.a_UnknownRow_init))
  ti_UnknownRow : PySem.W.typeIn K (.ref F.a_UnknownRow_init) = some (.type "function")
  nf_UnknownRow : PySem.W.findIn K (.ref A.c_UnknownRow) "value" = some none
  F_UnknownSaying_init : Fun K "__init__" "UnknownSaying.__init__" s_UnknownSaying_init F.a_UnknownSaying_init F.d_UnknownSaying_init
  b_UnknownSaying_init : Binds K F.d_UnknownSaying_init ["self", "value"] []
  oe_UnknownSaying : OexB K A.c_UnknownSaying
  in_UnknownSaying : PySem.W.findIn K (.ref A.c_UnknownSaying) "__init__" = some (some (.ref F.a_UnknownSaying_init))
  ti_UnknownSaying : PySem.W.typeIn K (.ref F.a_UnknownSaying_init) = some (.type "function")
  nf_UnknownSaying : PySem.W.findIn K (.ref A.c_UnknownSaying) "value" = some none
  F_law_values : Fun K "_law_values" "_law_values" s_law_values F.a_law_values F.d_law_values
  b_law_values : Binds K F.d_law_values ["_law_thing"] []
  g_law_values : mg "_law_values" = some (.ref F.a_law_values)
  F_InvalidRule_init : Fun K "__init__" "InvalidRule.__init__" s_InvalidRule_init F.a_InvalidRule_init F.d_InvalidRule_init
  b_InvalidRule_init : Binds K F.d_InvalidRule_init ["self", "index"] []
  oe_InvalidRule : OexB K A.c_InvalidRule
  in_InvalidRule : PySem.W.findIn K (.ref A.c_InvalidRule) "__init__" = some (some (.ref F.a_InvalidRule_init))
  ti_InvalidRule : PySem.W.typeIn K (.ref F.a_InvalidRule_init) = some (.type "function")
  nf_InvalidRule : PySem.W.findIn K (.ref A.c_InvalidRule) "index" = some none
  F_InvalidRows_init : Fun K "__init__" "InvalidRows.__init__" s_InvalidRows_init F.a_InvalidRows_init F.d_InvalidRows_init
  b_InvalidRows_init : Binds K F.d_InvalidRows_init ["self", "index"] []
  oe_InvalidRows : OexB K A.c_InvalidRows
  in_InvalidRows : PySem.W.findIn K (.ref A.c_InvalidRows) "__init__" = some (some (.ref F.a_InvalidRows_init))
  ti_InvalidRows : PySem.W.typeIn K (.ref F.a_InvalidRows_init) = some (.type "function")
  nf_InvalidRows : PySem.W.findIn K (.ref A.c_InvalidRows) "index" = some none
  F_InvalidSayings_init : Fun K "__init__" "InvalidSayings.__init__" s_InvalidSayings_init F.a_InvalidSayings_init F.d_InvalidSayings_init
  b_InvalidSayings_init : Binds K F.d_InvalidSayings_init ["self", "index"] []
  oe_InvalidSayings : OexB K A.c_InvalidSayings
  in_InvalidSayings : PySem.W.findIn K (.ref A.c_InvalidSayings) "__init__" = some (some (.ref F.a_InvalidSayings_init))
  ti_InvalidSayings : PySem.W.typeIn K (.ref F.a_InvalidSayings_init) = some (.type "function")
  nf_InvalidSayings : PySem.W.findIn K (.ref A.c_InvalidSayings) "index" = some none
  F_InvalidGuards_init : Fun K "__init__" "InvalidGuards.__init__" s_InvalidGuards_init F.a_InvalidGuards_init F.d_InvalidGuards_init
  b_InvalidGuards_init : Binds K F.d_InvalidGuards_init ["self", "index"] []
  oe_InvalidGuards : OexB K A.c_InvalidGuards
  in_InvalidGuards : PySem.W.findIn K (.ref A.c_InvalidGuards) "__init__" = some (some (.ref F.a_InvalidGuards_init))
  ti_InvalidGuards : PySem.W.typeIn K (.ref F.a_InvalidGuards_init) = some (.type "function")
  nf_InvalidGuards : PySem.W.findIn K (.ref A.c_InvalidGuards) "index" = some none
  F_InvalidDeed_init : Fun K "__init__" "InvalidDeed.__init__" s_InvalidDeed_init F.a_InvalidDeed_init F.d_InvalidDeed_init
  b_InvalidDeed_init : Binds K F.d_InvalidDeed_init ["self", "index"] []
  oe_InvalidDeed : OexB K A.c_InvalidDeed
  in_InvalidDeed : PySem.W.findIn K (.ref A.c_InvalidDeed) "__init__" = some (some (.ref F.a_InvalidDeed_init))
  ti_InvalidDeed : PySem.W.typeIn K (.ref F.a_InvalidDeed_init) = some (.type "function")
  nf_InvalidDeed : PySem.W.findIn K (.ref A.c_InvalidDeed) "index" = some none
  F_law_indexes : Fun K "_law_indexes" "_law_indexes" s_law_indexes F.a_law_indexes F.d_law_indexes
  b_law_indexes : Binds K F.d_law_indexes ["_law_thing"] []
  g_law_indexes : mg "_law_indexes" = some (.ref F.a_law_indexes)
  F_law_right : Fun K "_law_right" "_law_right" s_law_right F.a_law_right F.d_law_right
  b_law_right : Binds K F.d_law_right ["_law_bag_here"] []
  g_law_right : mg "_law_right" = some (.ref F.a_law_right)
  F_law_bag : Fun K "_law_bag" "_law_bag" s_law_bag F.a_law_bag F.d_law_bag
  b_law_bag : Binds K F.d_law_bag ["_law_cells", "_law_k"] []
  g_law_bag : mg "_law_bag" = some (.ref F.a_law_bag)
  F_law : Fun K "law" "law" s_law F.a_law F.d_law
  b_law : Binds K F.d_law ["_law_cells"] []
  g_law : mg "law" = some (.ref F.a_law)
  kb_Refused_init_1_shown_deed : KBn K F.d_Refused_init ["self", "deed", "shown"] 1 ["shown", "deed"] (pmA [1, 0]) (pmA [1, 0])
  kb_OtherSystem_init_1_given : KBn K F.d_OtherSystem_init ["self", "given"] 1 ["given"] (pmA [0]) (pmA [0])
  kb_OtherNames_init_1_given : KBn K F.d_OtherNames_init ["self", "given"] 1 ["given"] (pmA [0]) (pmA [0])
  kb_TooFew_init_1_many : KBn K F.d_TooFew_init ["self", "many"] 1 ["many"] (pmA [0]) (pmA [0])
  kb_TooMany_init_1_limit : KBn K F.d_TooMany_init ["self", "limit"] 1 ["limit"] (pmA [0]) (pmA [0])
  kb_InvalidStep_init_1_value : KBn K F.d_InvalidStep_init ["self", "value"] 1 ["value"] (pmA [0]) (pmA [0])
  kb_InvalidNumber_init_1_value : KBn K F.d_InvalidNumber_init ["self", "value"] 1 ["value"] (pmA [0]) (pmA [0])
  kb_InvalidNumbers_init_1_value : KBn K F.d_InvalidNumbers_init ["self", "value"] 1 ["value"] (pmA [0]) (pmA [0])
  kb_InvalidDigits_init_1_value : KBn K F.d_InvalidDigits_init ["self", "value"] 1 ["value"] (pmA [0]) (pmA [0])
  kb_InvalidMoves_init_1_value : KBn K F.d_InvalidMoves_init ["self", "value"] 1 ["value"] (pmA [0]) (pmA [0])
  kb_InvalidSigns_init_1_value : KBn K F.d_InvalidSigns_init ["self", "value"] 1 ["value"] (pmA [0]) (pmA [0])
  kb_InvalidName_init_1_value : KBn K F.d_InvalidName_init ["self", "value"] 1 ["value"] (pmA [0]) (pmA [0])
  kb_InvalidWish_init_1_value : KBn K F.d_InvalidWish_init ["self", "value"] 1 ["value"] (pmA [0]) (pmA [0])
  kb_InvalidText_init_1_value : KBn K F.d_InvalidText_init ["self", "value"] 1 ["value"] (pmA [0]) (pmA [0])
  kb_InvalidGood_init_1_value : KBn K F.d_InvalidGood_init ["self", "value"] 1 ["value"] (pmA [0]) (pmA [0])
  kb_InvalidLine_init_1_value : KBn K F.d_InvalidLine_init ["self", "value"] 1 ["value"] (pmA [0]) (pmA [0])
  kb_NotASystem_init_1_value : KBn K F.d_NotASystem_init ["self", "value"] 1 ["value"] (pmA [0]) (pmA [0])
  kb_NotARow_init_1_value : KBn K F.d_NotARow_init ["self", "value"] 1 ["value"] (pmA [0]) (pmA [0])
  kb_NotAWish_init_1_value : KBn K F.d_NotAWish_init ["self", "value"] 1 ["value"] (pmA [0]) (pmA [0])
  kb_NotABook_init_1_value : KBn K F.d_NotABook_init ["self", "value"] 1 ["value"] (pmA [0]) (pmA [0])
  kb_NotAMachine_init_1_value : KBn K F.d_NotAMachine_init ["self", "value"] 1 ["value"] (pmA [0]) (pmA [0])
  kb_UnknownRow_init_1_value : KBn K F.d_UnknownRow_init ["self", "value"] 1 ["value"] (pmA [0]) (pmA [0])
  kb_UnknownSaying_init_1_value : KBn K F.d_UnknownSaying_init ["self", "value"] 1 ["value"] (pmA [0]) (pmA [0])
  kb_InvalidRule_init_1_index : KBn K F.d_InvalidRule_init ["self", "index"] 1 ["index"] (pmA [0]) (pmA [0])
  kb_InvalidRows_init_1_index : KBn K F.d_InvalidRows_init ["self", "index"] 1 ["index"] (pmA [0]) (pmA [0])
  kb_InvalidSayings_init_1_index : KBn K F.d_InvalidSayings_init ["self", "index"] 1 ["index"] (pmA [0]) (pmA [0])
  kb_InvalidGuards_init_1_index : KBn K F.d_InvalidGuards_init ["self", "index"] 1 ["index"] (pmA [0]) (pmA [0])
  kb_InvalidDeed_init_1_index : KBn K F.d_InvalidDeed_init ["self", "index"] 1 ["index"] (pmA [0]) (pmA [0])
  m_ShapeError : mg "ShapeError" = some (.ref A.c_ShapeError)
  m_InvalidStep : mg "InvalidStep" = some (.ref A.c_InvalidStep)
  m_InvalidNumber : mg "InvalidNumber" = some (.ref A.c_InvalidNumber)
  m_InvalidNumbers : mg "InvalidNumbers" = some (.ref A.c_InvalidNumbers)
  m_InvalidDigits : mg "InvalidDigits" = some (.ref A.c_InvalidDigits)
  m_InvalidMoves : mg "InvalidMoves" = some (.ref A.c_InvalidMoves)
  m_InvalidSigns : mg "InvalidSigns" = some (.ref A.c_InvalidSigns)
  m_InvalidRule : mg "InvalidRule" = some (.ref A.c_InvalidRule)
  m_InvalidName : mg "InvalidName" = some (.ref A.c_InvalidName)
  m_InvalidWish : mg "InvalidWish" = some (.ref A.c_InvalidWish)
  m_InvalidText : mg "InvalidText" = some (.ref A.c_InvalidText)
  m_InvalidRows : mg "InvalidRows" = some (.ref A.c_InvalidRows)
  m_InvalidSayings : mg "InvalidSayings" = some (.ref A.c_InvalidSayings)
  m_InvalidGood : mg "InvalidGood" = some (.ref A.c_InvalidGood)
  m_InvalidGuards : mg "InvalidGuards" = some (.ref A.c_InvalidGuards)
  m_InvalidDeed : mg "InvalidDeed" = some (.ref A.c_InvalidDeed)
  m_InvalidLine : mg "InvalidLine" = some (.ref A.c_InvalidLine)
  m_NotASystem : mg "NotASystem" = some (.ref A.c_NotASystem)
  m_NotARow : mg "NotARow" = some (.ref A.c_NotARow)
  m_NotAWish : mg "NotAWish" = some (.ref A.c_NotAWish)
  m_NotABook : mg "NotABook" = some (.ref A.c_NotABook)
  m_NotAMachine : mg "NotAMachine" = some (.ref A.c_NotAMachine)
  m_QuestionError : mg "QuestionError" = some (.ref A.c_QuestionError)
  m_OtherSystem : mg "OtherSystem" = some (.ref A.c_OtherSystem)
  m_OtherNames : mg "OtherNames" = some (.ref A.c_OtherNames)
  m_UnknownRow : mg "UnknownRow" = some (.ref A.c_UnknownRow)
  m_UnknownSaying : mg "UnknownSaying" = some (.ref A.c_UnknownSaying)
  m_Never : mg "Never" = some (.ref A.c_Never)
  m_Endless : mg "Endless" = some (.ref A.c_Endless)
  m_TooFew : mg "TooFew" = some (.ref A.c_TooFew)
  m_Busy : mg "Busy" = some (.ref A.c_Busy)
  m_NothingToUndo : mg "NothingToUndo" = some (.ref A.c_NothingToUndo)
  m_Refused : mg "Refused" = some (.ref A.c_Refused)
  m_SizeError : mg "SizeError" = some (.ref A.c_SizeError)
  m_TooMany : mg "TooMany" = some (.ref A.c_TooMany)
  x0_Never : PySem.W.excIn K A.c_Never [.type "LookupError", .type "Exception", .type "BaseException", .type "object"] "LookupError.__new__" = true
  kx_Never : PySem.W.keepIn K (.ref A.c_Never) = true
  x0_Endless : PySem.W.excIn K A.c_Endless [.type "LookupError", .type "Exception", .type "BaseException", .type "object"] "LookupError.__new__" = true
  kx_Endless : PySem.W.keepIn K (.ref A.c_Endless) = true
  x0_Busy : PySem.W.excIn K A.c_Busy [.type "LookupError", .type "Exception", .type "BaseException", .type "object"] "LookupError.__new__" = true
  kx_Busy : PySem.W.keepIn K (.ref A.c_Busy) = true
  x0_NothingToUndo : PySem.W.excIn K A.c_NothingToUndo [.type "LookupError", .type "Exception", .type "BaseException", .type "object"] "LookupError.__new__" = true
  kx_NothingToUndo : PySem.W.keepIn K (.ref A.c_NothingToUndo) = true
  eco : EcOk K (ec A) ["deed", "shown", "given", "many", "limit", "value", "index"]
  z_ArithmeticError : mg "ArithmeticError" = none
  z_LookupError : mg "LookupError" = none
  z_ValueError : mg "ValueError" = none
  z_abs : mg "abs" = none
  z_all : mg "all" = none
  z_int : mg "int" = none
  z_isinstance : mg "isinstance" = none
  z_len : mg "len" = none
  z_max : mg "max" = none
  z_min : mg "min" = none
  z_range : mg "range" = none
  z_repr : mg "repr" = none
  v_MOST_CONSTANT : ∃ u, mg "MOST_CONSTANT" = some u ∧ RelV (.int 20) u
  v_MOST_DEEDS : ∃ u, mg "MOST_DEEDS" = some u ∧ RelV (.int 100) u
  v_MOST_DEPTH : ∃ u, mg "MOST_DEPTH" = some u ∧ RelV (.int 8) u
  v_MOST_LENGTH : ∃ u, mg "MOST_LENGTH" = some u ∧ RelV (.int 2000) u
  v_MOST_MACHINE : ∃ u, mg "MOST_MACHINE" = some u ∧ RelV (.int 10000) u
  v_MOST_NAMES : ∃ u, mg "MOST_NAMES" = some u ∧ RelV (.int 4) u
  v_MOST_NUMBER : ∃ u, mg "MOST_NUMBER" = some u ∧ RelV (.int 10000000000000000000000000000000000000000) u
  v_MOST_PARTS : ∃ u, mg "MOST_PARTS" = some u ∧ RelV (.int 60) u
  v_MOST_ROWS : ∃ u, mg "MOST_ROWS" = some u ∧ RelV (.int 4) u
  v_MOST_SAYINGS : ∃ u, mg "MOST_SAYINGS" = some u ∧ RelV (.int 12) u
  v_MOST_STANDS : ∃ u, mg "MOST_STANDS" = some u ∧ RelV (.int 8) u
  v_MOST_STEP : ∃ u, mg "MOST_STEP" = some u ∧ RelV (.int 3) u
  v_MOST_TERM : ∃ u, mg "MOST_TERM" = some u ∧ RelV (.int 4) u
  v_MOST_WISHES : ∃ u, mg "MOST_WISHES" = some u ∧ RelV (.int 6) u
  ty : TyOk K (cd A)
section
variable {P : Program} {w : World} {K : PySem.W.Frag} {mg : Str → Option Value} {base : Heap} {A : Ad} {F : Fa}
theorem ok_Refused_init (T : Txt K mg A F) : FnOk P w K mg base (L2.CX P w) 1 F.a_Refused_init F.d_Refused_init ["self", "deed", "shown"] (spEx2 A.c_Refused "deed" "shown") :=
  ok_errB2 T.F_Refused_init sc_Refused_init T.oe_Refused T.nf_Refused T.nf2_Refused fun cdv Ar outer s H E => pss_cons (ps_ostB (pv 0) (pv 1)) (pss_one (ps_ostB (pv 0) (pv 2)))
theorem ok_OtherSystem_init (T : Txt K mg A F) : FnOk P w K mg base (L2.CX P w) 1 F.a_OtherSystem_init F.d_OtherSystem_init ["self", "given"] (spEx A.c_OtherSystem "given") :=
  ok_errB T.F_OtherSystem_init sc_OtherSystem_init T.oe_OtherSystem T.nf_OtherSystem fun cdv Ar outer s H E => pss_one (ps_ostB (pv 0) (pv 1))
theorem ok_OtherNames_init (T : Txt K mg A F) : FnOk P w K mg base (L2.CX P w) 1 F.a_OtherNames_init F.d_OtherNames_init ["self", "given"] (spEx A.c_OtherNames "given") :=
  ok_errB T.F_OtherNames_init sc_OtherNames_init T.oe_OtherNames T.nf_OtherNames fun cdv Ar outer s H E => pss_one (ps_ostB (pv 0) (pv 1))
theorem ok_TooFew_init (T : Txt K mg A F) : FnOk P w K mg base (L2.CX P w) 1 F.a_TooFew_init F.d_TooFew_init ["self", "many"] (spEx A.c_TooFew "many") :=
  ok_errB T.F_TooFew_init sc_TooFew_init T.oe_TooFew T.nf_TooFew fun cdv Ar outer s H E => pss_one (ps_ostB (pv 0) (pv 1))
theorem ok_TooMany_init (T : Txt K mg A F) : FnOk P w K mg base (L2.CX P w) 1 F.a_TooMany_init F.d_TooMany_init ["self", "limit"] (spEx A.c_TooMany "limit") :=
  ok_errB T.F_TooMany_init sc_TooMany_init T.oe_TooMany T.nf_TooMany fun cdv Ar outer s H E => pss_one (ps_ostB (pv 0) (pv 1))
theorem ok_law_classes (T : Txt K mg A F) : FnOk P w K mg base (L2.CX P w) 1 F.a_law_classes F.d_law_classes ["_law_e"] (spOf K 1 (S_law_classes A)) := by
  exact ok_def T.F_law_classes sc_law_classes (by decide) (fun cdv Ar outer s H E hr => ⟨_, w_law_classes A,
    (pss_cons (ps_set (i := 1) sc_law_classes.nd rfl (by first | exact Or.inl rfl | exact Or.inr rfl) (pe_lst (pa_cons (pe_callB (call_isV (P := inE (ec A)) (fun C h => inE_k T.eco h)) (by rfl) T.z_isinstance bt_isinstance (pa_cons (pv 0) (pa_cons (pe_glob (v := .ref A.c_InvalidStep) (by rfl) T.m_InvalidStep rfl) pa_nil))) (pa_cons (pe_callB (call_isV (P := inE (ec A)) (fun C h => inE_k T.eco h)) (by rfl) T.z_isinstance bt_isinstance (pa_cons (pv 0) (pa_cons (pe_glob (v := .ref A.c_InvalidNumber) (by rfl) T.m_InvalidNumber rfl) pa_nil))) (pa_cons (pe_callB (call_isV (P := inE (ec A)) (fun C h => inE_k T.eco h)) (by rfl) T.z_isinstance bt_isinstance (pa_cons (pv 0) (pa_cons (pe_glob (v := .ref A.c_InvalidNumbers) (by rfl) T.m_InvalidNumbers rfl) pa_nil))) pa_nil)))))
    (pss_cons (ps_set (i := 1) sc_law_classes.nd rfl (by first | exact Or.inl rfl | exact Or.inr rfl) (pe_op op_addD (pv 1) (pe_lst (pa_cons (pe_callB (call_isV (P := inE (ec A)) (fun C h => inE_k T.eco h)) (by rfl) T.z_isinstance bt_isinstance (pa_cons (pv 0) (pa_cons (pe_glob (v := .ref A.c_InvalidDigits) (by rfl) T.m_InvalidDigits rfl) pa_nil))) (pa_cons (pe_callB (call_isV (P := inE (ec A)) (fun C h => inE_k T.eco h)) (by rfl) T.z_isinstance bt_isinstance (pa_cons (pv 0) (pa_cons (pe_glob (v := .ref A.c_InvalidMoves) (by rfl) T.m_InvalidMoves rfl) pa_nil))) pa_nil)))))
    (pss_cons (ps_set (i := 1) sc_law_classes.nd rfl (by first | exact Or.inl rfl | exact Or.inr rfl) (pe_op op_addD (pv 1) (pe_lst (pa_cons (pe_callB (call_isV (P := inE (ec A)) (fun C h => inE_k T.eco h)) (by rfl) T.z_isinstance bt_isinstance (pa_cons (pv 0) (pa_cons (pe_glob (v := .ref A.c_InvalidSigns) (by rfl) T.m_InvalidSigns rfl) pa_nil))) (pa_cons (pe_callB (call_isV (P := inE (ec A)) (fun C h => inE_k T.eco h)) (by rfl) T.z_isinstance bt_isinstance (pa_cons (pv 0) (pa_cons (pe_glob (v := .ref A.c_InvalidName) (by rfl) T.m_InvalidName rfl) pa_nil))) pa_nil)))))
    (pss_cons (ps_set (i := 1) sc_law_classes.nd rfl (by first | exact Or.inl rfl | exact Or.inr rfl) (pe_op op_addD (pv 1) (pe_lst (pa_cons (pe_callB (call_isV (P := inE (ec A)) (fun C h => inE_k T.eco h)) (by rfl) T.z_isinstance bt_isinstance (pa_cons (pv 0) (pa_cons (pe_glob (v := .ref A.c_InvalidWish) (by rfl) T.m_InvalidWish rfl) pa_nil))) (pa_cons (pe_callB (call_isV (P := inE (ec A)) (fun C h => inE_k T.eco h)) (by rfl) T.z_isinstance bt_isinstance (pa_cons (pv 0) (pa_cons (pe_glob (v := .ref A.c_InvalidText) (by rfl) T.m_InvalidText rfl) pa_nil))) pa_nil)))))
    (pss_cons (ps_set (i := 1) sc_law_classes.nd rfl (by first | exact Or.inl rfl | exact Or.inr rfl) (pe_op op_addD (pv 1) (pe_lst (pa_cons (pe_callB (call_isV (P := inE (ec A)) (fun C h => inE_k T.eco h)) (by rfl) T.z_isinstance bt_isinstance (pa_cons (pv 0) (pa_cons (pe_glob (v := .ref A.c_InvalidGood) (by rfl) T.m_InvalidGood rfl) pa_nil))) (pa_cons (pe_callB (call_isV (P := inE (ec A)) (fun C h => inE_k T.eco h)) (by rfl) T.z_isinstance bt_isinstance (pa_cons (pv 0) (pa_cons (pe_glob (v := .ref A.c_InvalidLine) (by rfl) T.m_InvalidLine rfl) pa_nil))) pa_nil)))))
    (pss_cons (ps_set (i := 1) sc_law_classes.nd rfl (by first | exact Or.inl rfl | exact Or.inr rfl) (pe_op op_addD (pv 1) (pe_lst (pa_cons (pe_callB (call_isV (P := inE (ec A)) (fun C h => inE_k T.eco h)) (by rfl) T.z_isinstance bt_isinstance (pa_cons (pv 0) (pa_cons (pe_glob (v := .ref A.c_NotASystem) (by rfl) T.m_NotASystem rfl) pa_nil))) (pa_cons (pe_callB (call_isV (P := inE (ec A)) (fun C h => inE_k T.eco h)) (by rfl) T.z_isinstance bt_isinstance (pa_cons (pv 0) (pa_cons (pe_glob (v := .ref A.c_NotARow) (by rfl) T.m_NotARow rfl) pa_nil))) (pa_cons (pe_callB (call_isV (P := inE (ec A)) (fun C h => inE_k T.eco h)) (by rfl) T.z_isinstance bt_isinstance (pa_cons (pv 0) (pa_cons (pe_glob (v := .ref A.c_NotAWish) (by rfl) T.m_NotAWish rfl) pa_nil))) pa_nil))))))
    (pss_cons (ps_set (i := 1) sc_law_classes.nd rfl (by first | exact Or.inl rfl | exact Or.inr rfl) (pe_op op_addD (pv 1) (pe_lst (pa_cons (pe_callB (call_isV (P := inE (ec A)) (fun C h => inE_k T.eco h)) (by rfl) T.z_isinstance bt_isinstance (pa_cons (pv 0) (pa_cons (pe_glob (v := .ref A.c_NotABook) (by rfl) T.m_NotABook rfl) pa_nil))) (pa_cons (pe_callB (call_isV (P := inE (ec A)) (fun C h => inE_k T.eco h)) (by rfl) T.z_isinstance bt_isinstance (pa_cons (pv 0) (pa_cons (pe_glob (v := .ref A.c_NotAMachine) (by rfl) T.m_NotAMachine rfl) pa_nil))) (pa_cons (pe_callB (call_isV (P := inE (ec A)) (fun C h => inE_k T.eco h)) (by rfl) T.z_isinstance bt_isinstance (pa_cons (pv 0) (pa_cons (pe_glob (v := .ref A.c_InvalidRule) (by rfl) T.m_InvalidRule rfl) pa_nil))) pa_nil))))))
    (pss_cons (ps_set (i := 1) sc_law_classes.nd rfl (by first | exact Or.inl rfl | exact Or.inr rfl) (pe_op op_addD (pv 1) (pe_lst (pa_cons (pe_callB (call_isV (P := inE (ec A)) (fun C h => inE_k T.eco h)) (by rfl) T.z_isinstance bt_isinstance (pa_cons (pv 0) (pa_cons (pe_glob (v := .ref A.c_InvalidRows) (by rfl) T.m_InvalidRows rfl) pa_nil))) (pa_cons (pe_callB (call_isV (P := inE (ec A)) (fun C h => inE_k T.eco h)) (by rfl) T.z_isinstance bt_isinstance (pa_cons (pv 0) (pa_cons (pe_glob (v := .ref A.c_InvalidSayings) (by rfl) T.m_InvalidSayings rfl) pa_nil))) pa_nil)))))
    (pss_cons (ps_set (i := 1) sc_law_classes.nd rfl (by first | exact Or.inl rfl | exact Or.inr rfl) (pe_op op_addD (pv 1) (pe_lst (pa_cons (pe_callB (call_isV (P := inE (ec A)) (fun C h => inE_k T.eco h)) (by rfl) T.z_isinstance bt_isinstance (pa_cons (pv 0) (pa_cons (pe_glob (v := .ref A.c_InvalidGuards) (by rfl) T.m_InvalidGuards rfl) pa_nil))) (pa_cons (pe_callB (call_isV (P := inE (ec A)) (fun C h => inE_k T.eco h)) (by rfl) T.z_isinstance bt_isinstance (pa_cons (pv 0) (pa_cons (pe_glob (v := .ref A.c_InvalidDeed) (by rfl) T.m_InvalidDeed rfl) pa_nil))) pa_nil)))))
    (pss_cons (ps_set (i := 1) sc_law_classes.nd rfl (by first | exact Or.inl rfl | exact Or.inr rfl) (pe_op op_addD (pv 1) (pe_lst (pa_cons (pe_callB (call_isV (P := inE (ec A)) (fun C h => inE_k T.eco h)) (by rfl) T.z_isinstance bt_isinstance (pa_cons (pv 0) (pa_cons (pe_glob (v := .ref A.c_UnknownRow) (by rfl) T.m_UnknownRow rfl) pa_nil))) (pa_cons (pe_callB (call_isV (P := inE (ec A)) (fun C h => inE_k T.eco h)) (by rfl) T.z_isinstance bt_isinstance (pa_cons (pv 0) (pa_cons (pe_glob (v := .ref A.c_UnknownSaying) (by rfl) T.m_UnknownSaying rfl) pa_nil))) pa_nil)))))
    (pss_cons (ps_set (i := 1) sc_law_classes.nd rfl (by first | exact Or.inl rfl | exact Or.inr rfl) (pe_op op_addD (pv 1) (pe_lst (pa_cons (pe_callB (call_isV (P := inE (ec A)) (fun C h => inE_k T.eco h)) (by rfl) T.z_isinstance bt_isinstance (pa_cons (pv 0) (pa_cons (pe_glob (v := .ref A.c_OtherSystem) (by rfl) T.m_OtherSystem rfl) pa_nil))) (pa_cons (pe_callB (call_isV (P := inE (ec A)) (fun C h => inE_k T.eco h)) (by rfl) T.z_isinstance bt_isinstance (pa_cons (pv 0) (pa_cons (pe_glob (v := .ref A.c_OtherNames) (by rfl) T.m_OtherNames rfl) pa_nil))) (pa_cons (pe_callB (call_isV (P := inE (ec A)) (fun C h => inE_k T.eco h)) (by rfl) T.z_isinstance bt_isinstance (pa_cons (pv 0) (pa_cons (pe_glob (v := .ref A.c_Never) (by rfl) T.m_Never rfl) pa_nil))) pa_nil))))))
    (pss_cons (ps_set (i := 1) sc_law_classes.nd rfl (by first | exact Or.inl rfl | exact Or.inr rfl) (pe_op op_addD (pv 1) (pe_lst (pa_cons (pe_callB (call_isV (P := inE (ec A)) (fun C h => inE_k T.eco h)) (by rfl) T.z_isinstance bt_isinstance (pa_cons (pv 0) (pa_cons (pe_glob (v := .ref A.c_Endless) (by rfl) T.m_Endless rfl) pa_nil))) (pa_cons (pe_callB (call_isV (P := inE (ec A)) (fun C h => inE_k T.eco h)) (by rfl) T.z_isinstance bt_isinstance (pa_cons (pv 0) (pa_cons (pe_glob (v := .ref A.c_Busy) (by rfl) T.m_Busy rfl) pa_nil))) (pa_cons (pe_callB (call_isV (P := inE (ec A)) (fun C h => inE_k T.eco h)) (by rfl) T.z_isinstance bt_isinstance (pa_cons (pv 0) (pa_cons (pe_glob (v := .ref A.c_NothingToUndo) (by rfl) T.m_NothingToUndo rfl) pa_nil))) pa_nil))))))
    (pss_cons (ps_set (i := 1) sc_law_classes.nd rfl (by first | exact Or.inl rfl | exact Or.inr rfl) (pe_op op_addD (pv 1) (pe_lst (pa_cons (pe_callB (call_isV (P := inE (ec A)) (fun C h => inE_k T.eco h)) (by rfl) T.z_isinstance bt_isinstance (pa_cons (pv 0) (pa_cons (pe_glob (v := .ref A.c_TooFew) (by rfl) T.m_TooFew rfl) pa_nil))) (pa_cons (pe_callB (call_isV (P := inE (ec A)) (fun C h => inE_k T.eco h)) (by rfl) T.z_isinstance bt_isinstance (pa_cons (pv 0) (pa_cons (pe_glob (v := .ref A.c_Refused) (by rfl) T.m_Refused rfl) pa_nil))) (pa_cons (pe_callB (call_isV (P := inE (ec A)) (fun C h => inE_k T.eco h)) (by rfl) T.z_isinstance bt_isinstance (pa_cons (pv 0) (pa_cons (pe_glob (v := .ref A.c_TooMany) (by rfl) T.m_TooMany rfl) pa_nil))) pa_nil))))))
    (pss_one (ps_ret (pv 1)))))))))))))))),
    (sims_seq (sims_asg (i := 1) (sim_fz (sim_lstO (sim_cons (sim_isX (ask := (fun C => isEO (ec A) C A.c_InvalidStep)) rel_ref (fun C b e => isEO_in T.eco e) (sim_var (i := 0))) (sim_cons (sim_isX (ask := (fun C => isEO (ec A) C A.c_InvalidNumber)) rel_ref (fun C b e => isEO_in T.eco e) (sim_var (i := 0))) (sim_cons (sim_isX (ask := (fun C => isEO (ec A) C A.c_InvalidNumbers)) rel_ref (fun C b e => isEO_in T.eco e) (sim_var (i := 0))) sim_nil))))))
    (sims_seq (sims_asg (i := 1) (sim_op sim_add (sim_var (i := 1)) (sim_fz (sim_lstO (sim_cons (sim_isX (ask := (fun C => isEO (ec A) C A.c_InvalidDigits)) rel_ref (fun C b e => isEO_in T.eco e) (sim_var (i := 0))) (sim_cons (sim_isX (ask := (fun C => isEO (ec A) C A.c_InvalidMoves)) rel_ref (fun C b e => isEO_in T.eco e) (sim_var (i := 0))) sim_nil))))))
    (sims_seq (sims_asg (i := 1) (sim_op sim_add (sim_var (i := 1)) (sim_fz (sim_lstO (sim_cons (sim_isX (ask := (fun C => isEO (ec A) C A.c_InvalidSigns)) rel_ref (fun C b e => isEO_in T.eco e) (sim_var (i := 0))) (sim_cons (sim_isX (ask := (fun C => isEO (ec A) C A.c_InvalidName)) rel_ref (fun C b e => isEO_in T.eco e) (sim_var (i := 0))) sim_nil))))))
    (sims_seq (sims_asg (i := 1) (sim_op sim_add (sim_var (i := 1)) (sim_fz (sim_lstO (sim_cons (sim_isX (ask := (fun C => isEO (ec A) C A.c_InvalidWish)) rel_ref (fun C b e => isEO_in T.eco e) (sim_var (i := 0))) (sim_cons (sim_isX (ask := (fun C => isEO (ec A) C A.c_InvalidText)) rel_ref (fun C b e => isEO_in T.eco e) (sim_var (i := 0))) sim_nil))))))
    (sims_seq (sims_asg (i := 1) (sim_op sim_add (sim_var (i := 1)) (sim_fz (sim_lstO (sim_cons (sim_isX (ask := (fun C => isEO (ec A) C A.c_InvalidGood)) rel_ref (fun C b e => isEO_in T.eco e) (sim_var (i := 0))) (sim_cons (sim_isX (ask := (fun C => isEO (ec A) C A.c_InvalidLine)) rel_ref (fun C b e => isEO_in T.eco e) (sim_var (i := 0))) sim_nil))))))
    (sims_seq (sims_asg (i := 1) (sim_op sim_add (sim_var (i := 1)) (sim_fz (sim_lstO (sim_cons (sim_isX (ask := (fun C => isEO (ec A) C A.c_NotASystem)) rel_ref (fun C b e => isEO_in T.eco e) (sim_var (i := 0))) (sim_cons (sim_isX (ask := (fun C => isEO (ec A) C A.c_NotARow)) rel_ref (fun C b e => isEO_in T.eco e) (sim_var (i := 0))) (sim_cons (sim_isX (ask := (fun C => isEO (ec A) C A.c_NotAWish)) rel_ref (fun C b e => isEO_in T.eco e) (sim_var (i := 0))) sim_nil)))))))
    (sims_seq (sims_asg (i := 1) (sim_op sim_add (sim_var (i := 1)) (sim_fz (sim_lstO (sim_cons (sim_isX (ask := (fun C => isEO (ec A) C A.c_NotABook)) rel_ref (fun C b e => isEO_in T.eco e) (sim_var (i := 0))) (sim_cons (sim_isX (ask := (fun C => isEO (ec A) C A.c_NotAMachine)) rel_ref (fun C b e => isEO_in T.eco e) (sim_var (i := 0))) (sim_cons (sim_isX (ask := (fun C => isEO (ec A) C A.c_InvalidRule)) rel_ref (fun C b e => isEO_in T.eco e) (sim_var (i := 0))) sim_nil)))))))
    (sims_seq (sims_asg (i := 1) (sim_op sim_add (sim_var (i := 1)) (sim_fz (sim_lstO (sim_cons (sim_isX (ask := (fun C => isEO (ec A) C A.c_InvalidRows)) rel_ref (fun C b e => isEO_in T.eco e) (sim_var (i := 0))) (sim_cons (sim_isX (ask := (fun C => isEO (ec A) C A.c_InvalidSayings)) rel_ref (fun C b e => isEO_in T.eco e) (sim_var (i := 0))) sim_nil))))))
    (sims_seq (sims_asg (i := 1) (sim_op sim_add (sim_var (i := 1)) (sim_fz (sim_lstO (sim_cons (sim_isX (ask := (fun C => isEO (ec A) C A.c_InvalidGuards)) rel_ref (fun C b e => isEO_in T.eco e) (sim_var (i := 0))) (sim_cons (sim_isX (ask := (fun C => isEO (ec A) C A.c_InvalidDeed)) rel_ref (fun C b e => isEO_in T.eco e) (sim_var (i := 0))) sim_nil))))))
    (sims_seq (sims_asg (i := 1) (sim_op sim_add (sim_var (i := 1)) (sim_fz (sim_lstO (sim_cons (sim_isX (ask := (fun C => isEO (ec A) C A.c_UnknownRow)) rel_ref (fun C b e => isEO_in T.eco e) (sim_var (i := 0))) (sim_cons (sim_isX (ask := (fun C => isEO (ec A) C A.c_UnknownSaying)) rel_ref (fun C b e => isEO_in T.eco e) (sim_var (i := 0))) sim_nil))))))
    (sims_seq (sims_asg (i := 1) (sim_op sim_add (sim_var (i := 1)) (sim_fz (sim_lstO (sim_cons (sim_isX (ask := (fun C => isEO (ec A) C A.c_OtherSystem)) rel_ref (fun C b e => isEO_in T.eco e) (sim_var (i := 0))) (sim_cons (sim_isX (ask := (fun C => isEO (ec A) C A.c_OtherNames)) rel_ref (fun C b e => isEO_in T.eco e) (sim_var (i := 0))) (sim_cons (sim_isX (ask := (fun C => isEO (ec A) C A.c_Never)) rel_ref (fun C b e => isEO_in T.eco e) (sim_var (i := 0))) sim_nil)))))))
    (sims_seq (sims_asg (i := 1) (sim_op sim_add (sim_var (i := 1)) (sim_fz (sim_lstO (sim_cons (sim_isX (ask := (fun C => isEO (ec A) C A.c_Endless)) rel_ref (fun C b e => isEO_in T.eco e) (sim_var (i := 0))) (sim_cons (sim_isX (ask := (fun C => isEO (ec A) C A.c_Busy)) rel_ref (fun C b e => isEO_in T.eco e) (sim_var (i := 0))) (sim_cons (sim_isX (ask := (fun C => isEO (ec A) C A.c_NothingToUndo)) rel_ref (fun C b e => isEO_in T.eco e) (sim_var (i := 0))) sim_nil)))))))
    (sims_seq (sims_asg (i := 1) (sim_op sim_add (sim_var (i := 1)) (sim_fz (sim_lstO (sim_cons (sim_isX (ask := (fun C => isEO (ec A) C A.c_TooFew)) rel_ref (fun C b e => isEO_in T.eco e) (sim_var (i := 0))) (sim_cons (sim_isX (ask := (fun C => isEO (ec A) C A.c_Refused)) rel_ref (fun C b e => isEO_in T.eco e) (sim_var (i := 0))) (sim_cons (sim_isX (ask := (fun C => isEO (ec A) C A.c_TooMany)) rel_ref (fun C b e => isEO_in T.eco e) (sim_var (i := 0))) sim_nil)))))))
    (sims_ret (sim_var (i := 1)))))))))))))))), hw_law_classes A⟩)
theorem ok_law_is (T : Txt K mg A F) : FnOk P w K mg base (L2.CX P w) 2 F.a_law_is F.d_law_is ["_law_e", "_law_at"] (spOf K 2 (S_law_is A)) := by
  exact ok_def T.F_law_is sc_law_is (by decide) (fun cdv Ar outer s H E hr => ⟨_, w_law_is A,
    (pss_cons (ps_set (i := 2) sc_law_is.nd rfl (by first | exact Or.inl rfl | exact Or.inr rfl) (pe_call (E := E0) (ok_law_classes T) (hr.mono (by decide)) (by rfl) T.g_law_classes T.F_law_classes.kp T.b_law_classes .nil passN (pa_cons (pv 0) pa_nil)))
    (pss_cons (ps_set (i := 3) sc_law_is.nd rfl (by first | exact Or.inl rfl | exact Or.inr rfl) (pe_lst (pa_cons (pe_callB (call_isV (P := inE (ec A)) (fun C h => inE_k T.eco h)) (by rfl) T.z_isinstance bt_isinstance (pa_cons (pv 0) (pa_cons (pe_glob (v := .ref A.c_ShapeError) (by rfl) T.m_ShapeError rfl) pa_nil))) (pa_cons (pe_callB (call_isV (P := inE (ec A)) (fun C h => inE_k T.eco h)) (by rfl) T.z_isinstance bt_isinstance (pa_cons (pv 0) (pa_cons (pe_glob (v := .ref A.c_QuestionError) (by rfl) T.m_QuestionError rfl) pa_nil))) (pa_cons (pe_callB (call_isV (P := inE (ec A)) (fun C h => inE_k T.eco h)) (by rfl) T.z_isinstance bt_isinstance (pa_cons (pv 0) (pa_cons (pe_glob (v := .ref A.c_SizeError) (by rfl) T.m_SizeError rfl) pa_nil))) pa_nil)))))
    (pss_cons (ps_set (i := 4) sc_law_is.nd rfl (by first | exact Or.inl rfl | exact Or.inr rfl) (pe_lst (pa_cons (pe_callB (call_isV (P := inE (ec A)) (fun C h => inE_k T.eco h)) (by rfl) T.z_isinstance bt_isinstance (pa_cons (pv 0) (pa_cons (pe_bltn (v := .ty "ValueError") (by rfl) T.z_ValueError bt_ValueError rfl) pa_nil))) (pa_cons (pe_callB (call_isV (P := inE (ec A)) (fun C h => inE_k T.eco h)) (by rfl) T.z_isinstance bt_isinstance (pa_cons (pv 0) (pa_cons (pe_bltn (v := .ty "LookupError") (by rfl) T.z_LookupError bt_LookupError rfl) pa_nil))) (pa_cons (pe_callB (call_isV (P := inE (ec A)) (fun C h => inE_k T.eco h)) (by rfl) T.z_isinstance bt_isinstance (pa_cons (pv 0) (pa_cons (pe_bltn (v := .ty "ArithmeticError") (by rfl) T.z_ArithmeticError bt_ArithmeticError rfl) pa_nil))) pa_nil)))))
    (pss_cons (ps_set (i := 5) sc_law_is.nd rfl (by first | exact Or.inl rfl | exact Or.inr rfl) (pe_lst (pa_cons (pe_cmpR op_ltD (pv 1) pe_int (nomark _)) (pa_cons (pe_chain op_ltD op_ltD pe_int (pv 1) pe_int) (pa_cons (pe_cmpR (op_eqD (hu64 hr)) (pv 1) pe_int (nomark _)) pa_nil)))))
    (pss_one (ps_ret (pe_and (pe_cmpR (op_eqD (hu64 hr)) (pe_bm PySem.F.plainAttrs_list PySem.F.slot_list_count PySem.F.type_list_count mt_cntB (pv 2) (pa_cons pe_bl pa_nil)) pe_int (nomark _)) (pe_and (pe_cmpR (op_eqD (hu64 hr)) (pe_bm PySem.F.plainAttrs_list PySem.F.slot_list_index PySem.F.type_list_index mt_index (pv 2) (pa_cons pe_bl pa_nil)) (pv 1) (nomark _)) (pe_and (pe_cmpR (op_eqD (hu64 hr)) (pv 3) (pv 5) (nomark _)) (pe_one (pe_cmpR (op_eqD (hu64 hr)) (pv 4) (pv 5) (nomark _)))))))))))),
    (sims_seq (sims_asg (i := 2) (sim_call0 rd0 (sim_cons (sim_var (i := 0)) sim_nil)))
    (sims_seq (sims_asg (i := 3) (sim_fz (sim_lstO (sim_cons (sim_isX (ask := (fun C => isEO (ec A) C A.c_ShapeError)) rel_ref (fun C b e => isEO_in T.eco e) (sim_var (i := 0))) (sim_cons (sim_isX (ask := (fun C => isEO (ec A) C A.c_QuestionError)) rel_ref (fun C b e => isEO_in T.eco e) (sim_var (i := 0))) (sim_cons (sim_isX (ask := (fun C => isEO (ec A) C A.c_SizeError)) rel_ref (fun C b e => isEO_in T.eco e) (sim_var (i := 0))) sim_nil))))))
    (sims_seq (sims_asg (i := 4) (sim_fz (sim_lstO (sim_cons (sim_isX (ask := (fun C => isET (ec A) C "ValueError")) rel_ty (fun C b e => isET_in T.eco e) (sim_var (i := 0))) (sim_cons (sim_isX (ask := (fun C => isET (ec A) C "LookupError")) rel_ty (fun C b e => isET_in T.eco e) (sim_var (i := 0))) (sim_cons (sim_isX (ask := (fun C => isET (ec A) C "ArithmeticError")) rel_ty (fun C b e => isET_in T.eco e) (sim_var (i := 0))) sim_nil))))))
    (sims_seq (sims_asg (i := 5) (sim_fz (sim_lstO (sim_cons (sim_op sim_lt (sim_var (i := 1)) sim_int) (sim_cons (sim_chain sim_lt sim_lt sim_int (sim_var (i := 1)) sim_int) (sim_cons (sim_op sim_eq (sim_var (i := 1)) sim_int) sim_nil))))))
    (sims_ret (sim_andV (sim_op sim_eq (sim_cntB (siml_E (sim_var (i := 2)))) sim_int) (sim_andV (sim_op sim_eq (sim_indexB (siml_E (sim_var (i := 2)))) (sim_var (i := 1))) (sim_andV (sim_op sim_eq (sim_var (i := 3)) (sim_var (i := 5))) (sim_op sim_eq (sim_var (i := 4)) (sim_var (i := 5))))))))))), hw_law_is A⟩)
theorem ok_law_others_right (T : Txt K mg A F) (B : Tbs mg base F) : FnG P w K mg base (L2.CX P w) 3 F.a_law_others_right F.d_law_others_right ["_law_thing", "_law_mate"] (spOf K 2 (S_law_others_right A)) := by
  exact okR_def T.F_law_others_right sc_law_others_right (by decide) (fun cdv Ar outer s H E hr hgd => ⟨_, w_law_others_right A,
    (pss_cons (ps_set (i := 2) sc_law_others_right.nd rfl (by first | exact Or.inl rfl | exact Or.inr rfl) (pe_lst (pa_cons (pe_mkv T.oe_Refused T.in_Refused T.ti_Refused (ok_Refused_init T) (hr.mono (by decide)) T.b_Refused_init .nil passN (by rfl) T.m_Refused (pa_cons (pv 0) (pa_cons (pv 1) pa_nil))) (pa_cons (pe_mkvK T.oe_Refused T.in_Refused T.ti_Refused (ok_Refused_init T) (hr.mono (by decide)) T.kb_Refused_init_1_shown_deed passN (by rfl) T.m_Refused (pk_cons (pv 1) (pk_cons (pv 0) pk_nil))) pa_nil))))
    (pss_cons (ps_if (pt_cmpR (op_neD (hu64 hr)) (pe_lc rfl sc_law_others_right.nd (pi_list (pv 2)) (own := [("_law_e", 3)]) (blkOk_by (by kernel_rfl)) (fun _ _ _ _ _ => (pg_name (i := 3) sc_law_others_right.nd rfl (by first | exact Or.inl rfl | exact Or.inr rfl))) (fun _ _ _ _ _ => (pts_one (PW.pt (pw_or (pt_cmpR (op_neD (hu64 hr)) (pe_callB (call_reprN hgd (hu128 hr)) (by rfl) T.z_repr bt_repr (pa_cons (pe_lst (pa_cons (pe_xfV (P := inE (ec A)) (fun C h => ⟨inE_k T.eco h, inE_na T.eco h (by decide)⟩) (pv 3)) (pa_cons (pe_xfV (P := inE (ec A)) (fun C h => ⟨inE_k T.eco h, inE_na T.eco h (by decide)⟩) (pv 3)) pa_nil))) pa_nil)) (pe_callB (call_reprN hgd (hu128 hr)) (by rfl) T.z_repr bt_repr (pa_cons (pe_lst (pa_cons (pv 0) (pa_cons (pv 1) pa_nil))) pa_nil)) (nomark _)) (pw_or1 (pt_not (pt_val (pe_call (E := E0) (ok_law_is T) (hr.mono (by decide)) (by rfl) T.g_law_is T.F_law_is.kp T.b_law_is .nil passN (pa_cons (pv 3) (pa_cons pe_int pa_nil)))))))))) (fun _ _ _ _ _ => (pv 3))) (pe_lst pa_nil) (nomark _)) (pss_one (ps_ret pe_bl)) pss_nil)
    (pss_cons (ps_set (i := 4) sc_law_others_right.nd rfl (by first | exact Or.inl rfl | exact Or.inr rfl) (pe_lst (pa_cons (pe_mkv T.oe_OtherSystem T.in_OtherSystem T.ti_OtherSystem (ok_OtherSystem_init T) (hr.mono (by decide)) T.b_OtherSystem_init .nil passN (by rfl) T.m_OtherSystem (pa_cons (pv 0) pa_nil)) (pa_cons (pe_mkvK T.oe_OtherSystem T.in_OtherSystem T.ti_OtherSystem (ok_OtherSystem_init T) (hr.mono (by decide)) T.kb_OtherSystem_init_1_given passN (by rfl) T.m_OtherSystem (pk_cons (pv 0) pk_nil)) pa_nil))))
    (pss_cons (ps_if (pt_cmpR (op_neD (hu64 hr)) (pe_lc rfl sc_law_others_right.nd (pi_list (pv 4)) (own := [("_law_e", 3)]) (blkOk_by (by kernel_rfl)) (fun _ _ _ _ _ => (pg_name (i := 3) sc_law_others_right.nd rfl (by first | exact Or.inl rfl | exact Or.inr rfl))) (fun _ _ _ _ _ => (pts_one (PW.pt (pw_or (pt_cmpR (op_neD (hu64 hr)) (pe_callB (call_reprN hgd (hu128 hr)) (by rfl) T.z_repr bt_repr (pa_cons (pe_xfV (P := inE (ec A)) (fun C h => ⟨inE_k T.eco h, inE_na T.eco h (by decide)⟩) (pv 3)) pa_nil)) (pe_callB (call_reprN hgd (hu128 hr)) (by rfl) T.z_repr bt_repr (pa_cons (pv 0) pa_nil)) (nomark _)) (pw_or1 (pt_not (pt_val (pe_call (E := E0) (ok_law_is T) (hr.mono (by decide)) (by rfl) T.g_law_is T.F_law_is.kp T.b_law_is .nil passN (pa_cons (pv 3) (pa_cons pe_int pa_nil)))))))))) (fun _ _ _ _ _ => (pv 3))) (pe_lst pa_nil) (nomark _)) (pss_one (ps_ret pe_bl)) pss_nil)
    (pss_cons (ps_set (i := 4) sc_law_others_right.nd rfl (by first | exact Or.inl rfl | exact Or.inr rfl) (pe_lst (pa_cons (pe_mkv T.oe_OtherNames T.in_OtherNames T.ti_OtherNames (ok_OtherNames_init T) (hr.mono (by decide)) T.b_OtherNames_init .nil passN (by rfl) T.m_OtherNames (pa_cons (pv 0) pa_nil)) (pa_cons (pe_mkvK T.oe_OtherNames T.in_OtherNames T.ti_OtherNames (ok_OtherNames_init T) (hr.mono (by decide)) T.kb_OtherNames_init_1_given passN (by rfl) T.m_OtherNames (pk_cons (pv 0) pk_nil)) pa_nil))))
    (pss_cons (ps_if (pt_cmpR (op_neD (hu64 hr)) (pe_lc rfl sc_law_others_right.nd (pi_list (pv 4)) (own := [("_law_e", 3)]) (blkOk_by (by kernel_rfl)) (fun _ _ _ _ _ => (pg_name (i := 3) sc_law_others_right.nd rfl (by first | exact Or.inl rfl | exact Or.inr rfl))) (fun _ _ _ _ _ => (pts_one (PW.pt (pw_or (pt_cmpR (op_neD (hu64 hr)) (pe_callB (call_reprN hgd (hu128 hr)) (by rfl) T.z_repr bt_repr (pa_cons (pe_xfV (P := inE (ec A)) (fun C h => ⟨inE_k T.eco h, inE_na T.eco h (by decide)⟩) (pv 3)) pa_nil)) (pe_callB (call_reprN hgd (hu128 hr)) (by rfl) T.z_repr bt_repr (pa_cons (pv 0) pa_nil)) (nomark _)) (pw_or1 (pt_not (pt_val (pe_call (E := E0) (ok_law_is T) (hr.mono (by decide)) (by rfl) T.g_law_is T.F_law_is.kp T.b_law_is .nil passN (pa_cons (pv 3) (pa_cons pe_int pa_nil)))))))))) (fun _ _ _ _ _ => (pv 3))) (pe_lst pa_nil) (nomark _)) (pss_one (ps_ret pe_bl)) pss_nil)
    (pss_cons (ps_set (i := 4) sc_law_others_right.nd rfl (by first | exact Or.inl rfl | exact Or.inr rfl) (pe_lst (pa_cons (pe_mkv T.oe_TooFew T.in_TooFew T.ti_TooFew (ok_TooFew_init T) (hr.mono (by decide)) T.b_TooFew_init .nil passN (by rfl) T.m_TooFew (pa_cons (pv 0) pa_nil)) (pa_cons (pe_mkvK T.oe_TooFew T.in_TooFew T.ti_TooFew (ok_TooFew_init T) (hr.mono (by decide)) T.kb_TooFew_init_1_many passN (by rfl) T.m_TooFew (pk_cons (pv 0) pk_nil)) pa_nil))))
    (pss_cons (ps_if (pt_cmpR (op_neD (hu64 hr)) (pe_lc rfl sc_law_others_right.nd (pi_list (pv 4)) (own := [("_law_e", 3)]) (blkOk_by (by kernel_rfl)) (fun _ _ _ _ _ => (pg_name (i := 3) sc_law_others_right.nd rfl (by first | exact Or.inl rfl | exact Or.inr rfl))) (fun _ _ _ _ _ => (pts_one (PW.pt (pw_or (pt_cmpR (op_neD (hu64 hr)) (pe_callB (call_reprN hgd (hu128 hr)) (by rfl) T.z_repr bt_repr (pa_cons (pe_xfV (P := inE (ec A)) (fun C h => ⟨inE_k T.eco h, inE_na T.eco h (by decide)⟩) (pv 3)) pa_nil)) (pe_callB (call_reprN hgd (hu128 hr)) (by rfl) T.z_repr bt_repr (pa_cons (pv 0) pa_nil)) (nomark _)) (pw_or1 (pt_not (pt_val (pe_call (E := E0) (ok_law_is T) (hr.mono (by decide)) (by rfl) T.g_law_is T.F_law_is.kp T.b_law_is .nil passN (pa_cons (pv 3) (pa_cons pe_int pa_nil)))))))))) (fun _ _ _ _ _ => (pv 3))) (pe_lst pa_nil) (nomark _)) (pss_one (ps_ret pe_bl)) pss_nil)
    (pss_cons (ps_set (i := 4) sc_law_others_right.nd rfl (by first | exact Or.inl rfl | exact Or.inr rfl) (pe_lst (pa_cons (pe_mkv T.oe_TooMany T.in_TooMany T.ti_TooMany (ok_TooMany_init T) (hr.mono (by decide)) T.b_TooMany_init .nil passN (by rfl) T.m_TooMany (pa_cons (pv 0) pa_nil)) (pa_cons (pe_mkvK T.oe_TooMany T.in_TooMany T.ti_TooMany (ok_TooMany_init T) (hr.mono (by decide)) T.kb_TooMany_init_1_limit passN (by rfl) T.m_TooMany (pk_cons (pv 0) pk_nil)) pa_nil))))
    (pss_cons (ps_if (pt_cmpR (op_neD (hu64 hr)) (pe_lc rfl sc_law_others_right.nd (pi_list (pv 4)) (own := [("_law_e", 3)]) (blkOk_by (by kernel_rfl)) (fun _ _ _ _ _ => (pg_name (i := 3) sc_law_others_right.nd rfl (by first | exact Or.inl rfl | exact Or.inr rfl))) (fun _ _ _ _ _ => (pts_one (PW.pt (pw_or (pt_cmpR (op_neD (hu64 hr)) (pe_callB (call_reprN hgd (hu128 hr)) (by rfl) T.z_repr bt_repr (pa_cons (pe_xfV (P := inE (ec A)) (fun C h => ⟨inE_k T.eco h, inE_na T.eco h (by decide)⟩) (pv 3)) pa_nil)) (pe_callB (call_reprN hgd (hu128 hr)) (by rfl) T.z_repr bt_repr (pa_cons (pv 0) pa_nil)) (nomark _)) (pw_or1 (pt_not (pt_val (pe_call (E := E0) (ok_law_is T) (hr.mono (by decide)) (by rfl) T.g_law_is T.F_law_is.kp T.b_law_is .nil passN (pa_cons (pv 3) (pa_cons pe_int pa_nil)))))))))) (fun _ _ _ _ _ => (pv 3))) (pe_lst pa_nil) (nomark _)) (pss_one (ps_ret pe_bl)) pss_nil)
    (pss_cons (ps_set (i := 5) sc_law_others_right.nd rfl (by first | exact Or.inl rfl | exact Or.inr rfl) (pe_lst (pa_cons (pe_call (E := E0) (ok_law_is T) (hr.mono (by decide)) (by rfl) T.g_law_is T.F_law_is.kp T.b_law_is .nil passN (pa_cons (pe_mkv0 PySem.F.excBase_LookupError T.x0_Never T.m_Never T.kx_Never (by rfl)) (pa_cons pe_int pa_nil))) (pa_cons (pe_call (E := E0) (ok_law_is T) (hr.mono (by decide)) (by rfl) T.g_law_is T.F_law_is.kp T.b_law_is .nil passN (pa_cons (pe_mkv0 PySem.F.excBase_LookupError T.x0_Endless T.m_Endless T.kx_Endless (by rfl)) (pa_cons pe_int pa_nil))) pa_nil))))
    (pss_one (ps_ret (pe_cmpR (op_eqD (hu64 hr)) (pe_op op_addD (pv 5) (pe_lst (pa_cons (pe_call (E := E0) (ok_law_is T) (hr.mono (by decide)) (by rfl) T.g_law_is T.F_law_is.kp T.b_law_is .nil passN (pa_cons (pe_mkv0 PySem.F.excBase_LookupError T.x0_Busy T.m_Busy T.kx_Busy (by rfl)) (pa_cons pe_int pa_nil))) (pa_cons (pe_call (E := E0) (ok_law_is T) (hr.mono (by decide)) (by rfl) T.g_law_is T.F_law_is.kp T.b_law_is .nil passN (pa_cons (pe_mkv0 PySem.F.excBase_LookupError T.x0_NothingToUndo T.m_NothingToUndo T.kx_NothingToUndo (by rfl)) (pa_cons pe_int pa_nil))) pa_nil)))) (pe_op op_mulT (pe_lst (pa_cons pe_bl pa_nil)) pe_int) (nomark _))))))))))))))),
    (sims_seq (sims_asg (i := 2) (sim_fz (sim_lstO (sim_cons (sim_mkX2 (sim_cons (sim_var (i := 0)) (sim_cons (sim_var (i := 1)) sim_nil))) (sim_cons (sim_mkX2K (fun _ _ _ => rfl) (sim_cons (sim_var (i := 1)) (sim_cons (sim_var (i := 0)) sim_nil))) sim_nil)))))
    (sims_seq (sims_if (simt_test (sim_op sim_ne (sim_fz (simo_lc (simi_list (sim_var (i := 2))) (simg_name (i := 3)) (simt_or (simt_test (sim_op sim_ne (sim_cb sim_reprN (sim_cons (sim_fz (sim_lstO (sim_cons (sim_xfX (sim_var (i := 3))) (sim_cons (sim_xfX (sim_var (i := 3))) sim_nil)))) sim_nil)) (sim_cb sim_reprN (sim_cons (sim_fz (sim_lstO (sim_cons (sim_var (i := 0)) (sim_cons (sim_var (i := 1)) sim_nil)))) sim_nil)))) (simt_not (simt_B (sim_call0 rd0 (sim_cons (sim_var (i := 3)) (sim_cons sim_int sim_nil)))))) (sim_var (i := 3)) (by decide))) (sim_fz (sim_lstO sim_nil)))) (sims_ret sim_bl) sims_next)
    (sims_seq (sims_asg (i := 4) (sim_fz (sim_lstO (sim_cons (sim_mkX (sim_cons (sim_var (i := 0)) sim_nil)) (sim_cons (sim_mkXK (fun _ _ => rfl) (sim_cons (sim_var (i := 0)) sim_nil)) sim_nil)))))
    (sims_seq (sims_if (simt_test (sim_op sim_ne (sim_fz (simo_lc (simi_list (sim_var (i := 4))) (simg_name (i := 3)) (simt_or (simt_test (sim_op sim_ne (sim_cb sim_reprN (sim_cons (sim_xfX (sim_var (i := 3))) sim_nil)) (sim_cb sim_reprN (sim_cons (sim_var (i := 0)) sim_nil)))) (simt_not (simt_B (sim_call0 rd0 (sim_cons (sim_var (i := 3)) (sim_cons sim_int sim_nil)))))) (sim_var (i := 3)) (by decide))) (sim_fz (sim_lstO sim_nil)))) (sims_ret sim_bl) sims_next)
    (sims_seq (sims_asg (i := 4) (sim_fz (sim_lstO (sim_cons (sim_mkX (sim_cons (sim_var (i := 0)) sim_nil)) (sim_cons (sim_mkXK (fun _ _ => rfl) (sim_cons (sim_var (i := 0)) sim_nil)) sim_nil)))))
    (sims_seq (sims_if (simt_test (sim_op sim_ne (sim_fz (simo_lc (simi_list (sim_var (i := 4))) (simg_name (i := 3)) (simt_or (simt_test (sim_op sim_ne (sim_cb sim_reprN (sim_cons (sim_xfX (sim_var (i := 3))) sim_nil)) (sim_cb sim_reprN (sim_cons (sim_var (i := 0)) sim_nil)))) (simt_not (simt_B (sim_call0 rd0 (sim_cons (sim_var (i := 3)) (sim_cons sim_int sim_nil)))))) (sim_var (i := 3)) (by decide))) (sim_fz (sim_lstO sim_nil)))) (sims_ret sim_bl) sims_next)
    (sims_seq (sims_asg (i := 4) (sim_fz (sim_lstO (sim_cons (sim_mkX (sim_cons (sim_var (i := 0)) sim_nil)) (sim_cons (sim_mkXK (fun _ _ => rfl) (sim_cons (sim_var (i := 0)) sim_nil)) sim_nil)))))
    (sims_seq (sims_if (simt_test (sim_op sim_ne (sim_fz (simo_lc (simi_list (sim_var (i := 4))) (simg_name (i := 3)) (simt_or (simt_test (sim_op sim_ne (sim_cb sim_reprN (sim_cons (sim_xfX (sim_var (i := 3))) sim_nil)) (sim_cb sim_reprN (sim_cons (sim_var (i := 0)) sim_nil)))) (simt_not (simt_B (sim_call0 rd0 (sim_cons (sim_var (i := 3)) (sim_cons sim_int sim_nil)))))) (sim_var (i := 3)) (by decide))) (sim_fz (sim_lstO sim_nil)))) (sims_ret sim_bl) sims_next)
    (sims_seq (sims_asg (i := 4) (sim_fz (sim_lstO (sim_cons (sim_mkX (sim_cons (sim_var (i := 0)) sim_nil)) (sim_cons (sim_mkXK (fun _ _ => rfl) (sim_cons (sim_var (i := 0)) sim_nil)) sim_nil)))))
    (sims_seq (sims_if (simt_test (sim_op sim_ne (sim_fz (simo_lc (simi_list (sim_var (i := 4))) (simg_name (i := 3)) (simt_or (simt_test (sim_op sim_ne (sim_cb sim_reprN (sim_cons (sim_xfX (sim_var (i := 3))) sim_nil)) (sim_cb sim_reprN (sim_cons (sim_var (i := 0)) sim_nil)))) (simt_not (simt_B (sim_call0 rd0 (sim_cons (sim_var (i := 3)) (sim_cons sim_int sim_nil)))))) (sim_var (i := 3)) (by decide))) (sim_fz (sim_lstO sim_nil)))) (sims_ret sim_bl) sims_next)
    (sims_seq (sims_asg (i := 5) (sim_fz (sim_lstO (sim_cons (sim_call0 rd0 (sim_cons sim_mkX0 (sim_cons sim_int sim_nil))) (sim_cons (sim_call0 rd0 (sim_cons sim_mkX0 (sim_cons sim_int sim_nil))) sim_nil)))))
    (sims_ret (sim_op sim_eq (sim_op sim_add (sim_var (i := 5)) (sim_fz (sim_lstO (sim_cons (sim_call0 rd0 (sim_cons sim_mkX0 (sim_cons sim_int sim_nil))) (sim_cons (sim_call0 rd0 (sim_cons sim_mkX0 (sim_cons sim_int sim_nil))) sim_nil))))) (sim_op sim_mulT (sim_fz (sim_lstO (sim_cons sim_bl sim_nil))) sim_int)))))))))))))), hw_law_others_right A⟩)
theorem ok_law_draw (T : Txt K mg A F) : FnOk P w K mg base (L2.CX P w) 1 F.a_law_draw F.d_law_draw ["_law_bag_here", "_law_wide"] (spOf K 2 sDraw) :=
  T.F_law_draw.okX sc_law_draw (fun vs H Q E h => spOf_len h) (fun cdv Ar outer s H vs Q E hr h => ⟨tDraw K, (pss_open (i := 0) (pss_cons (ps_asg (pe_op op_addD (pe_ix ix_seq (pv 0) pe_int (fun _ _ => rfl)) pe_int) (pg_sub (pv 0) pe_int set_list)) (pss_cons (ps_if (pt_cmpR op_gtD (pe_ix ix_seq (pv 0) pe_int (fun _ _ => rfl)) pe_int (nomark _)) (pss_cons (ps_set (i := 2) sc_law_draw.nd rfl (Or.inl rfl) (pe_op op_modD (pe_callTy call_int1 (by rfl) T.z_int bt_int (pa_cons (pe_ix ix_seq (pv 0) pe_int (fun _ _ => rfl)) pa_nil)) (pv 1))) (pss_cons (ps_asg (pe_op op_divD (pe_ix ix_seq (pv 0) pe_int (fun _ _ => rfl)) (pv 1)) (pg_sub (pv 0) pe_int set_list)) (pss_one (ps_ret (pe_shut (i := 0) (pv 2)))))) pss_nil) (pss_cons (ps_set (i := 3) sc_law_draw.nd rfl (Or.inl rfl) (pe_op op_addD (pe_callTy call_int1 (by rfl) T.z_int bt_int (pa_cons (pe_ix ix_seq (pv 0) pe_int (fun _ _ => rfl)) pa_nil)) (pe_op op_mulD pe_int (pe_ix ix_seq (pv 0) pe_int (fun _ _ => rfl))))) (pss_cons (ps_asg (pe_op op_modD (pe_callTy call_int1 (by rfl) T.z_int bt_int (pa_cons (pe_op op_addD (pe_op op_addD (pe_op op_mulD (pv 3) (pe_op op_addD (pe_op op_modD (pe_callTy call_int1 (by rfl) T.z_int bt_int (pa_cons (pv 3) pa_nil)) pe_int) pe_int)) (pe_op op_mulD pe_int (pe_ix ix_seq (pv 0) pe_int (fun _ _ => rfl)))) pe_int) pa_nil)) pe_int) (pg_sub (pv 0) pe_int set_list)) (pss_one (ps_ret (pe_shut (i := 0) (pe_op op_modD (pe_op op_divD (pe_callTy call_int1 (by rfl) T.z_int bt_int (pa_cons (pe_ix ix_seq (pv 0) pe_int (fun _ _ => rfl)) pa_nil)) pe_int) (pv 1)))))))))), draw_ok h rfl⟩)
theorem ok_law_one (T : Txt K mg A F) : FnOk P w K mg base (L2.CX P w) 2 F.a_law_one F.d_law_one ["_law_bag_here", "_law_some"] (spOf K 2 (S_law_one A)) := by
  exact ok_def T.F_law_one sc_law_one (by decide) (fun cdv Ar outer s H E hr => ⟨_, w_law_one A,
    (pss_one (ps_ret (pe_ix ix_seq (pv 1) (pe_call (E := E0) (ok_law_draw T) (hr.mono (by decide)) (by rfl) T.g_law_draw T.F_law_draw.kp T.b_law_draw .nil passN (pa_cons (pv 0) (pa_cons (pe_callB call_len (by rfl) T.z_len bt_len (pa_cons (pv 1) pa_nil)) pa_nil))) (fun _ _ => rfl)))),
    (sims_ret (sim_op sim_ix (sim_var (i := 1)) (sim_call0 rd0 (sim_cons (sim_var (i := 0)) (sim_cons (sim_cb sim_len (sim_cons (sim_var (i := 1)) sim_nil)) sim_nil))))), hw_law_one A⟩)
theorem ok_InvalidStep_init (T : Txt K mg A F) : FnOk P w K mg base (L2.CX P w) 1 F.a_InvalidStep_init F.d_InvalidStep_init ["self", "value"] (spEx A.c_InvalidStep "value") :=
  ok_errB T.F_InvalidStep_init sc_InvalidStep_init T.oe_InvalidStep T.nf_InvalidStep fun cdv Ar outer s H E => pss_one (ps_ostB (pv 0) (pv 1))
theorem ok_InvalidNumber_init (T : Txt K mg A F) : FnOk P w K mg base (L2.CX P w) 1 F.a_InvalidNumber_init F.d_InvalidNumber_init ["self", "value"] (spEx A.c_InvalidNumber "value") :=
  ok_errB T.F_InvalidNumber_init sc_InvalidNumber_init T.oe_InvalidNumber T.nf_InvalidNumber fun cdv Ar outer s H E => pss_one (ps_ostB (pv 0) (pv 1))
theorem ok_InvalidNumbers_init (T : Txt K mg A F) : FnOk P w K mg base (L2.CX P w) 1 F.a_InvalidNumbers_init F.d_InvalidNumbers_init ["self", "value"] (spEx A.c_InvalidNumbers "value") :=
  ok_errB T.F_InvalidNumbers_init sc_InvalidNumbers_init T.oe_InvalidNumbers T.nf_InvalidNumbers fun cdv Ar outer s H E => pss_one (ps_ostB (pv 0) (pv 1))
theorem ok_InvalidDigits_init (T : Txt K mg A F) : FnOk P w K mg base (L2.CX P w) 1 F.a_InvalidDigits_init F.d_InvalidDigits_init ["self", "value"] (spEx A.c_InvalidDigits "value") :=
  ok_errB T.F_InvalidDigits_init sc_InvalidDigits_init T.oe_InvalidDigits T.nf_InvalidDigits fun cdv Ar outer s H E => pss_one (ps_ostB (pv 0) (pv 1))
theorem ok_InvalidMoves_init (T : Txt K mg A F) : FnOk P w K mg base (L2.CX P w) 1 F.a_InvalidMoves_init F.d_InvalidMoves_init ["self", "value"] (spEx A.c_InvalidMoves "value") :=
  ok_errB T.F_InvalidMoves_init sc_InvalidMoves_init T.oe_InvalidMoves T.nf_InvalidMoves fun cdv Ar outer s H E => pss_one (ps_ostB (pv 0) (pv 1))
theorem ok_InvalidSigns_init (T : Txt K mg A F) : FnOk P w K mg base (L2.CX P w) 1 F.a_InvalidSigns_init F.d_InvalidSigns_init ["self", "value"] (spEx A.c_InvalidSigns "value") :=
  ok_errB T.F_InvalidSigns_init sc_InvalidSigns_init T.oe_InvalidSigns T.nf_InvalidSigns fun cdv Ar outer s H E => pss_one (ps_ostB (pv 0) (pv 1))
theorem ok_InvalidName_init (T : Txt K mg A F) : FnOk P w K mg base (L2.CX P w) 1 F.a_InvalidName_init F.d_InvalidName_init ["self", "value"] (spEx A.c_InvalidName "value") :=
  ok_errB T.F_InvalidName_init sc_InvalidName_init T.oe_InvalidName T.nf_InvalidName fun cdv Ar outer s H E => pss_one (ps_ostB (pv 0) (pv 1))
theorem ok_InvalidWish_init (T : Txt K mg A F) : FnOk P w K mg base (L2.CX P w) 1 F.a_InvalidWish_init F.d_InvalidWish_init ["self", "value"] (spEx A.c_InvalidWish "value") :=
  ok_errB T.F_InvalidWish_init sc_InvalidWish_init T.oe_InvalidWish T.nf_InvalidWish fun cdv Ar outer s H E => pss_one (ps_ostB (pv 0) (pv 1))
theorem ok_InvalidText_init (T : Txt K mg A F) : FnOk P w K mg base (L2.CX P w) 1 F.a_InvalidText_init F.d_InvalidText_init ["self", "value"] (spEx A.c_InvalidText "value") :=
  ok_errB T.F_InvalidText_init sc_InvalidText_init T.oe_InvalidText T.nf_InvalidText fun cdv Ar outer s H E => pss_one (ps_ostB (pv 0) (pv 1))
theorem ok_InvalidGood_init (T : Txt K mg A F) : FnOk P w K mg base (L2.CX P w) 1 F.a_InvalidGood_init F.d_InvalidGood_init ["self", "value"] (spEx A.c_InvalidGood "value") :=
  ok_errB T.F_InvalidGood_init sc_InvalidGood_init T.oe_InvalidGood T.nf_InvalidGood fun cdv Ar outer s H E => pss_one (ps_ostB (pv 0) (pv 1))
theorem ok_InvalidLine_init (T : Txt K mg A F) : FnOk P w K mg base (L2.CX P w) 1 F.a_InvalidLine_init F.d_InvalidLine_init ["self", "value"] (spEx A.c_InvalidLine "value") :=
  ok_errB T.F_InvalidLine_init sc_InvalidLine_init T.oe_InvalidLine T.nf_InvalidLine fun cdv Ar outer s H E => pss_one (ps_ostB (pv 0) (pv 1))
theorem ok_NotASystem_init (T : Txt K mg A F) : FnOk P w K mg base (L2.CX P w) 1 F.a_NotASystem_init F.d_NotASystem_init ["self", "value"] (spEx A.c_NotASystem "value") :=
  ok_errB T.F_NotASystem_init sc_NotASystem_init T.oe_NotASystem T.nf_NotASystem fun cdv Ar outer s H E => pss_one (ps_ostB (pv 0) (pv 1))
theorem ok_NotARow_init (T : Txt K mg A F) : FnOk P w K mg base (L2.CX P w) 1 F.a_NotARow_init F.d_NotARow_init ["self", "value"] (spEx A.c_NotARow "value") :=
  ok_errB T.F_NotARow_init sc_NotARow_init T.oe_NotARow T.nf_NotARow fun cdv Ar outer s H E => pss_one (ps_ostB (pv 0) (pv 1))
theorem ok_NotAWish_init (T : Txt K mg A F) : FnOk P w K mg base (L2.CX P w) 1 F.a_NotAWish_init F.d_NotAWish_init ["self", "value"] (spEx A.c_NotAWish "value") :=
  ok_errB T.F_NotAWish_init sc_NotAWish_init T.oe_NotAWish T.nf_NotAWish fun cdv Ar outer s H E => pss_one (ps_ostB (pv 0) (pv 1))
theorem ok_NotABook_init (T : Txt K mg A F) : FnOk P w K mg base (L2.CX P w) 1 F.a_NotABook_init F.d_NotABook_init ["self", "value"] (spEx A.c_NotABook "value") :=
  ok_errB T.F_NotABook_init sc_NotABook_init T.oe_NotABook T.nf_NotABook fun cdv Ar outer s H E => pss_one (ps_ostB (pv 0) (pv 1))
theorem ok_NotAMachine_init (T : Txt K mg A F) : FnOk P w K mg base (L2.CX P w) 1 F.a_NotAMachine_init F.d_NotAMachine_init ["self", "value"] (spEx A.c_NotAMachine "value") :=
  ok_errB T.F_NotAMachine_init sc_NotAMachine_init T.oe_NotAMachine T.nf_NotAMachine fun cdv Ar outer s H E => pss_one (ps_ostB (pv 0) (pv 1))
theorem ok_UnknownRow_init (T : Txt K mg A F) : FnOk P w K mg base (L2.CX P w) 1 F.a_UnknownRow_init F.d_UnknownRow_init ["self", "value"] (spEx A.c_UnknownRow "value") :=
  ok_errB T.F_UnknownRow_init sc_UnknownRow_init T.oe_UnknownRow T.nf_UnknownRow fun cdv Ar outer s H E => pss_one (ps_ostB (pv 0) (pv 1))
theorem ok_UnknownSaying_init (T : Txt K mg A F) : FnOk P w K mg base (L2.CX P w) 1 F.a_UnknownSaying_init F.d_UnknownSaying_init ["self", "value"] (spEx A.c_UnknownSaying "value") :=
  ok_errB T.F_UnknownSaying_init sc_UnknownSaying_init T.oe_UnknownSaying T.nf_UnknownSaying fun cdv Ar outer s H E => pss_one (ps_ostB (pv 0) (pv 1))
theorem ok_law_values (T : Txt K mg A F) : FnOk P w K mg base (L2.CX P w) 3 F.a_law_values F.d_law_values ["_law_thing"] (spOf K 1 (S_law_values A)) := by
  exact ok_def T.F_law_values sc_law_values (by decide) (fun cdv Ar outer s H E hr => ⟨_, w_law_values A,
    (pss_cons (ps_set (i := 1) sc_law_values.nd rfl (by first | exact Or.inl rfl | exact Or.inr rfl) (pe_lst (pa_cons (pe_mkv T.oe_InvalidStep T.in_InvalidStep T.ti_InvalidStep (ok_InvalidStep_init T) (hr.mono (by decide)) T.b_InvalidStep_init .nil passN (by rfl) T.m_InvalidStep (pa_cons (pv 0) pa_nil)) (pa_cons (pe_mkv T.oe_InvalidNumber T.in_InvalidNumber T.ti_InvalidNumber (ok_InvalidNumber_init T) (hr.mono (by decide)) T.b_InvalidNumber_init .nil passN (by rfl) T.m_InvalidNumber (pa_cons (pv 0) pa_nil)) (pa_cons (pe_mkv T.oe_InvalidNumbers T.in_InvalidNumbers T.ti_InvalidNumbers (ok_InvalidNumbers_init T) (hr.mono (by decide)) T.b_InvalidNumbers_init .nil passN (by rfl) T.m_InvalidNumbers (pa_cons (pv 0) pa_nil)) (pa_cons (pe_mkv T.oe_InvalidDigits T.in_InvalidDigits T.ti_InvalidDigits (ok_InvalidDigits_init T) (hr.mono (by decide)) T.b_InvalidDigits_init .nil passN (by rfl) T.m_InvalidDigits (pa_cons (pv 0) pa_nil)) pa_nil))))))
    (pss_cons (ps_set (i := 1) sc_law_values.nd rfl (by first | exact Or.inl rfl | exact Or.inr rfl) (pe_op op_addD (pv 1) (pe_lst (pa_cons (pe_mkv T.oe_InvalidMoves T.in_InvalidMoves T.ti_InvalidMoves (ok_InvalidMoves_init T) (hr.mono (by decide)) T.b_InvalidMoves_init .nil passN (by rfl) T.m_InvalidMoves (pa_cons (pv 0) pa_nil)) (pa_cons (pe_mkv T.oe_InvalidSigns T.in_InvalidSigns T.ti_InvalidSigns (ok_InvalidSigns_init T) (hr.mono (by decide)) T.b_InvalidSigns_init .nil passN (by rfl) T.m_InvalidSigns (pa_cons (pv 0) pa_nil)) (pa_cons (pe_mkv T.oe_InvalidName T.in_InvalidName T.ti_InvalidName (ok_InvalidName_init T) (hr.mono (by decide)) T.b_InvalidName_init .nil passN (by rfl) T.m_InvalidName (pa_cons (pv 0) pa_nil)) pa_nil))))))
    (pss_cons (ps_set (i := 1) sc_law_values.nd rfl (by first | exact Or.inl rfl | exact Or.inr rfl) (pe_op op_addD (pv 1) (pe_lst (pa_cons (pe_mkv T.oe_InvalidWish T.in_InvalidWish T.ti_InvalidWish (ok_InvalidWish_init T) (hr.mono (by decide)) T.b_InvalidWish_init .nil passN (by rfl) T.m_InvalidWish (pa_cons (pv 0) pa_nil)) (pa_cons (pe_mkv T.oe_InvalidText T.in_InvalidText T.ti_InvalidText (ok_InvalidText_init T) (hr.mono (by decide)) T.b_InvalidText_init .nil passN (by rfl) T.m_InvalidText (pa_cons (pv 0) pa_nil)) (pa_cons (pe_mkv T.oe_InvalidGood T.in_InvalidGood T.ti_InvalidGood (ok_InvalidGood_init T) (hr.mono (by decide)) T.b_InvalidGood_init .nil passN (by rfl) T.m_InvalidGood (pa_cons (pv 0) pa_nil)) (pa_cons (pe_mkv T.oe_InvalidLine T.in_InvalidLine T.ti_InvalidLine (ok_InvalidLine_init T) (hr.mono (by decide)) T.b_InvalidLine_init .nil passN (by rfl) T.m_InvalidLine (pa_cons (pv 0) pa_nil)) pa_nil)))))))
    (pss_cons (ps_set (i := 1) sc_law_values.nd rfl (by first | exact Or.inl rfl | exact Or.inr rfl) (pe_op op_addD (pv 1) (pe_lst (pa_cons (pe_mkv T.oe_NotASystem T.in_NotASystem T.ti_NotASystem (ok_NotASystem_init T) (hr.mono (by decide)) T.b_NotASystem_init .nil passN (by rfl) T.m_NotASystem (pa_cons (pv 0) pa_nil)) (pa_cons (pe_mkv T.oe_NotARow T.in_NotARow T.ti_NotARow (ok_NotARow_init T) (hr.mono (by decide)) T.b_NotARow_init .nil passN (by rfl) T.m_NotARow (pa_cons (pv 0) pa_nil)) (pa_cons (pe_mkv T.oe_NotAWish T.in_NotAWish T.ti_NotAWish (ok_NotAWish_init T) (hr.mono (by decide)) T.b_NotAWish_init .nil passN (by rfl) T.m_NotAWish (pa_cons (pv 0) pa_nil)) (pa_cons (pe_mkv T.oe_NotABook T.in_NotABook T.ti_NotABook (ok_NotABook_init T) (hr.mono (by decide)) T.b_NotABook_init .nil passN (by rfl) T.m_NotABook (pa_cons (pv 0) pa_nil)) pa_nil)))))))
    (pss_cons (ps_set (i := 1) sc_law_values.nd rfl (by first | exact Or.inl rfl | exact Or.inr rfl) (pe_op op_addD (pv 1) (pe_lst (pa_cons (pe_mkv T.oe_NotAMachine T.in_NotAMachine T.ti_NotAMachine (ok_NotAMachine_init T) (hr.mono (by decide)) T.b_NotAMachine_init .nil passN (by rfl) T.m_NotAMachine (pa_cons (pv 0) pa_nil)) (pa_cons (pe_mkv T.oe_UnknownRow T.in_UnknownRow T.ti_UnknownRow (ok_UnknownRow_init T) (hr.mono (by decide)) T.b_UnknownRow_init .nil passN (by rfl) T.m_UnknownRow (pa_cons (pv 0) pa_nil)) (pa_cons (pe_mkv T.oe_UnknownSaying T.in_UnknownSaying T.ti_UnknownSaying (ok_UnknownSaying_init T) (hr.mono (by decide)) T.b_UnknownSaying_init .nil passN (by rfl) T.m_UnknownSaying (pa_cons (pv 0) pa_nil)) pa_nil))))))
    (pss_cons (ps_set (i := 1) sc_law_values.nd rfl (by first | exact Or.inl rfl | exact Or.inr rfl) (pe_op op_addD (pv 1) (pe_lst (pa_cons (pe_mkvK T.oe_InvalidStep T.in_InvalidStep T.ti_InvalidStep (ok_InvalidStep_init T) (hr.mono (by decide)) T.kb_InvalidStep_init_1_value passN (by rfl) T.m_InvalidStep (pk_cons (pv 0) pk_nil)) (pa_cons (pe_mkvK T.oe_InvalidNumber T.in_InvalidNumber T.ti_InvalidNumber (ok_InvalidNumber_init T) (hr.mono (by decide)) T.kb_InvalidNumber_init_1_value passN (by rfl) T.m_InvalidNumber (pk_cons (pv 0) pk_nil)) pa_nil)))))
    (pss_cons (ps_set (i := 1) sc_law_values.nd rfl (by first | exact Or.inl rfl | exact Or.inr rfl) (pe_op op_addD (pv 1) (pe_lst (pa_cons (pe_mkvK T.oe_InvalidNumbers T.in_InvalidNumbers T.ti_InvalidNumbers (ok_InvalidNumbers_init T) (hr.mono (by decide)) T.kb_InvalidNumbers_init_1_value passN (by rfl) T.m_InvalidNumbers (pk_cons (pv 0) pk_nil)) (pa_cons (pe_mkvK T.oe_InvalidDigits T.in_InvalidDigits T.ti_InvalidDigits (ok_InvalidDigits_init T) (hr.mono (by decide)) T.kb_InvalidDigits_init_1_value passN (by rfl) T.m_InvalidDigits (pk_cons (pv 0) pk_nil)) pa_nil)))))
    (pss_cons (ps_set (i := 1) sc_law_values.nd rfl (by first | exact Or.inl rfl | exact Or.inr rfl) (pe_op op_addD (pv 1) (pe_lst (pa_cons (pe_mkvK T.oe_InvalidMoves T.in_InvalidMoves T.ti_InvalidMoves (ok_InvalidMoves_init T) (hr.mono (by decide)) T.kb_InvalidMoves_init_1_value passN (by rfl) T.m_InvalidMoves (pk_cons (pv 0) pk_nil)) (pa_cons (pe_mkvK T.oe_InvalidSigns T.in_InvalidSigns T.ti_InvalidSigns (ok_InvalidSigns_init T) (hr.mono (by decide)) T.kb_InvalidSigns_init_1_value passN (by rfl) T.m_InvalidSigns (pk_cons (pv 0) pk_nil)) (pa_cons (pe_mkvK T.oe_InvalidName T.in_InvalidName T.ti_InvalidName (ok_InvalidName_init T) (hr.mono (by decide)) T.kb_InvalidName_init_1_value passN (by rfl) T.m_InvalidName (pk_cons (pv 0) pk_nil)) pa_nil))))))
    (pss_cons (ps_set (i := 1) sc_law_values.nd rfl (by first | exact Or.inl rfl | exact Or.inr rfl) (pe_op op_addD (pv 1) (pe_lst (pa_cons (pe_mkvK T.oe_InvalidWish T.in_InvalidWish T.ti_InvalidWish (ok_InvalidWish_init T) (hr.mono (by decide)) T.kb_InvalidWish_init_1_value passN (by rfl) T.m_InvalidWish (pk_cons (pv 0) pk_nil)) (pa_cons (pe_mkvK T.oe_InvalidText T.in_InvalidText T.ti_InvalidText (ok_InvalidText_init T) (hr.mono (by decide)) T.kb_InvalidText_init_1_value passN (by rfl) T.m_InvalidText (pk_cons (pv 0) pk_nil)) (pa_cons (pe_mkvK T.oe_InvalidGood T.in_InvalidGood T.ti_InvalidGood (ok_InvalidGood_init T) (hr.mono (by decide)) T.kb_InvalidGood_init_1_value passN (by rfl) T.m_InvalidGood (pk_cons (pv 0) pk_nil)) pa_nil))))))
    (pss_cons (ps_set (i := 1) sc_law_values.nd rfl (by first | exact Or.inl rfl | exact Or.inr rfl) (pe_op op_addD (pv 1) (pe_lst (pa_cons (pe_mkvK T.oe_InvalidLine T.in_InvalidLine T.ti_InvalidLine (ok_InvalidLine_init T) (hr.mono (by decide)) T.kb_InvalidLine_init_1_value passN (by rfl) T.m_InvalidLine (pk_cons (pv 0) pk_nil)) (pa_cons (pe_mkvK T.oe_NotASystem T.in_NotASystem T.ti_NotASystem (ok_NotASystem_init T) (hr.mono (by decide)) T.kb_NotASystem_init_1_value passN (by rfl) T.m_NotASystem (pk_cons (pv 0) pk_nil)) (pa_cons (pe_mkvK T.oe_NotARow T.in_NotARow T.ti_NotARow (ok_NotARow_init T) (hr.mono (by decide)) T.kb_NotARow_init_1_value passN (by rfl) T.m_NotARow (pk_cons (pv 0) pk_nil)) pa_nil))))))
    (pss_cons (ps_set (i := 1) sc_law_values.nd rfl (by first | exact Or.inl rfl | exact Or.inr rfl) (pe_op op_addD (pv 1) (pe_lst (pa_cons (pe_mkvK T.oe_NotAWish T.in_NotAWish T.ti_NotAWish (ok_NotAWish_init T) (hr.mono (by decide)) T.kb_NotAWish_init_1_value passN (by rfl) T.m_NotAWish (pk_cons (pv 0) pk_nil)) (pa_cons (pe_mkvK T.oe_NotABook T.in_NotABook T.ti_NotABook (ok_NotABook_init T) (hr.mono (by decide)) T.kb_NotABook_init_1_value passN (by rfl) T.m_NotABook (pk_cons (pv 0) pk_nil)) (pa_cons (pe_mkvK T.oe_NotAMachine T.in_NotAMachine T.ti_NotAMachine (ok_NotAMachine_init T) (hr.mono (by decide)) T.kb_NotAMachine_init_1_value passN (by rfl) T.m_NotAMachine (pk_cons (pv 0) pk_nil)) pa_nil))))))
    (pss_cons (ps_set (i := 1) sc_law_values.nd rfl (by first | exact Or.inl rfl | exact Or.inr rfl) (pe_op op_addD (pv 1) (pe_lst (pa_cons (pe_mkvK T.oe_UnknownRow T.in_UnknownRow T.ti_UnknownRow (ok_UnknownRow_init T) (hr.mono (by decide)) T.kb_UnknownRow_init_1_value passN (by rfl) T.m_UnknownRow (pk_cons (pv 0) pk_nil)) (pa_cons (pe_mkvK T.oe_UnknownSaying T.in_UnknownSaying T.ti_UnknownSaying (ok_UnknownSaying_init T) (hr.mono (by decide)) T.kb_UnknownSaying_init_1_value passN (by rfl) T.m_UnknownSaying (pk_cons (pv 0) pk_nil)) pa_nil)))))
    (pss_one (ps_ret (pv 1))))))))))))))),
    (sims_seq (sims_asg (i := 1) (sim_fz (sim_lstO (sim_cons (sim_mkX (sim_cons (sim_var (i := 0)) sim_nil)) (sim_cons (sim_mkX (sim_cons (sim_var (i := 0)) sim_nil)) (sim_cons (sim_mkX (sim_cons (sim_var (i := 0)) sim_nil)) (sim_cons (sim_mkX (sim_cons (sim_var (i := 0)) sim_nil)) sim_nil)))))))
    (sims_seq (sims_asg (i := 1) (sim_op sim_add (sim_var (i := 1)) (sim_fz (sim_lstO (sim_cons (sim_mkX (sim_cons (sim_var (i := 0)) sim_nil)) (sim_cons (sim_mkX (sim_cons (sim_var (i := 0)) sim_nil)) (sim_cons (sim_mkX (sim_cons (sim_var (i := 0)) sim_nil)) sim_nil)))))))
    (sims_seq (sims_asg (i := 1) (sim_op sim_add (sim_var (i := 1)) (sim_fz (sim_lstO (sim_cons (sim_mkX (sim_cons (sim_var (i := 0)) sim_nil)) (sim_cons (sim_mkX (sim_cons (sim_var (i := 0)) sim_nil)) (sim_cons (sim_mkX (sim_cons (sim_var (i := 0)) sim_nil)) (sim_cons (sim_mkX (sim_cons (sim_var (i := 0)) sim_nil)) sim_nil))))))))
    (sims_seq (sims_asg (i := 1) (sim_op sim_add (sim_var (i := 1)) (sim_fz (sim_lstO (sim_cons (sim_mkX (sim_cons (sim_var (i := 0)) sim_nil)) (sim_cons (sim_mkX (sim_cons (sim_var (i := 0)) sim_nil)) (sim_cons (sim_mkX (sim_cons (sim_var (i := 0)) sim_nil)) (sim_cons (sim_mkX (sim_cons (sim_var (i := 0)) sim_nil)) sim_nil))))))))
    (sims_seq (sims_asg (i := 1) (sim_op sim_add (sim_var (i := 1)) (sim_fz (sim_lstO (sim_cons (sim_mkX (sim_cons (sim_var (i := 0)) sim_nil)) (sim_cons (sim_mkX (sim_cons (sim_var (i := 0)) sim_nil)) (sim_cons (sim_mkX (sim_cons (sim_var (i := 0)) sim_nil)) sim_nil)))))))
    (sims_seq (sims_asg (i := 1) (sim_op sim_add (sim_var (i := 1)) (sim_fz (sim_lstO (sim_cons (sim_mkXK (fun _ _ => rfl) (sim_cons (sim_var (i := 0)) sim_nil)) (sim_cons (sim_mkXK (fun _ _ => rfl) (sim_cons (sim_var (i := 0)) sim_nil)) sim_nil))))))
    (sims_seq (sims_asg (i := 1) (sim_op sim_add (sim_var (i := 1)) (sim_fz (sim_lstO (sim_cons (sim_mkXK (fun _ _ => rfl) (sim_cons (sim_var (i := 0)) sim_nil)) (sim_cons (sim_mkXK (fun _ _ => rfl) (sim_cons (sim_var (i := 0)) sim_nil)) sim_nil))))))
    (sims_seq (sims_asg (i := 1) (sim_op sim_add (sim_var (i := 1)) (sim_fz (sim_lstO (sim_cons (sim_mkXK (fun _ _ => rfl) (sim_cons (sim_var (i := 0)) sim_nil)) (sim_cons (sim_mkXK (fun _ _ => rfl) (sim_cons (sim_var (i := 0)) sim_nil)) (sim_cons (sim_mkXK (fun _ _ => rfl) (sim_cons (sim_var (i := 0)) sim_nil)) sim_nil)))))))
    (sims_seq (sims_asg (i := 1) (sim_op sim_add (sim_var (i := 1)) (sim_fz (sim_lstO (sim_cons (sim_mkXK (fun _ _ => rfl) (sim_cons (sim_var (i := 0)) sim_nil)) (sim_cons (sim_mkXK (fun _ _ => rfl) (sim_cons (sim_var (i := 0)) sim_nil)) (sim_cons (sim_mkXK (fun _ _ => rfl) (sim_cons (sim_var (i := 0)) sim_nil)) sim_nil)))))))
    (sims_seq (sims_asg (i := 1) (sim_op sim_add (sim_var (i := 1)) (sim_fz (sim_lstO (sim_cons (sim_mkXK (fun _ _ => rfl) (sim_cons (sim_var (i := 0)) sim_nil)) (sim_cons (sim_mkXK (fun _ _ => rfl) (sim_cons (sim_var (i := 0)) sim_nil)) (sim_cons (sim_mkXK (fun _ _ => rfl) (sim_cons (sim_var (i := 0)) sim_nil)) sim_nil)))))))
    (sims_seq (sims_asg (i := 1) (sim_op sim_add (sim_var (i := 1)) (sim_fz (sim_lstO (sim_cons (sim_mkXK (fun _ _ => rfl) (sim_cons (sim_var (i := 0)) sim_nil)) (sim_cons (sim_mkXK (fun _ _ => rfl) (sim_cons (sim_var (i := 0)) sim_nil)) (sim_cons (sim_mkXK (fun _ _ => rfl) (sim_cons (sim_var (i := 0)) sim_nil)) sim_nil)))))))
    (sims_seq (sims_asg (i := 1) (sim_op sim_add (sim_var (i := 1)) (sim_fz (sim_lstO (sim_cons (sim_mkXK (fun _ _ => rfl) (sim_cons (sim_var (i := 0)) sim_nil)) (sim_cons (sim_mkXK (fun _ _ => rfl) (sim_cons (sim_var (i := 0)) sim_nil)) sim_nil))))))
    (sims_ret (sim_var (i := 1))))))))))))))), hw_law_values A⟩)
theorem ok_InvalidRule_init (T : Txt K mg A F) : FnOk P w K mg base (L2.CX P w) 1 F.a_InvalidRule_init F.d_InvalidRule_init ["self", "index"] (spEx A.c_InvalidRule "index") :=
  ok_errB T.F_InvalidRule_init sc_InvalidRule_init T.oe_InvalidRule T.nf_InvalidRule fun cdv Ar outer s H E => pss_one (ps_ostB (pv 0) (pv 1))
theorem ok_InvalidRows_init (T : Txt K mg A F) : FnOk P w K mg base (L2.CX P w) 1 F.a_InvalidRows_init F.d_InvalidRows_init ["self", "index"] (spEx A.c_InvalidRows "index") :=
  ok_errB T.F_InvalidRows_init sc_InvalidRows_init T.oe_InvalidRows T.nf_InvalidRows fun cdv Ar outer s H E => pss_one (ps_ostB (pv 0) (pv 1))
theorem ok_InvalidSayings_init (T : Txt K mg A F) : FnOk P w K mg base (L2.CX P w) 1 F.a_InvalidSayings_init F.d_InvalidSayings_init ["self", "index"] (spEx A.c_InvalidSayings "index") :=
  ok_errB T.F_InvalidSayings_init sc_InvalidSayings_init T.oe_InvalidSayings T.nf_InvalidSayings fun cdv Ar outer s H E => pss_one (ps_ostB (pv 0) (pv 1))
theorem ok_InvalidGuards_init (T : Txt K mg A F) : FnOk P w K mg base (L2.CX P w) 1 F.a_InvalidGuards_init F.d_InvalidGuards_init ["self", "index"] (spEx A.c_InvalidGuards "index") :=
  ok_errB T.F_InvalidGuards_init sc_InvalidGuards_init T.oe_InvalidGuards T.nf_InvalidGuards fun cdv Ar outer s H E => pss_one (ps_ostB (pv 0) (pv 1))
theorem ok_InvalidDeed_init (T : Txt K mg A F) : FnOk P w K mg base (L2.CX P w) 1 F.a_InvalidDeed_init F.d_InvalidDeed_init ["self", "index"] (spEx A.c_InvalidDeed "index") :=
  ok_errB T.F_InvalidDeed_init sc_InvalidDeed_init T.oe_InvalidDeed T.nf_InvalidDeed fun cdv Ar outer s H E => pss_one (ps_ostB (pv 0) (pv 1))
theorem ok_law_indexes (T : Txt K mg A F) : FnOk P w K mg base (L2.CX P w) 3 F.a_law_indexes F.d_law_indexes ["_law_thing"] (spOf K 1 (S_law_indexes A)) := by
  exact ok_def T.F_law_indexes sc_law_indexes (by decide) (fun cdv Ar outer s H E hr => ⟨_, w_law_indexes A,
    (pss_cons (ps_set (i := 1) sc_law_indexes.nd rfl (by first | exact Or.inl rfl | exact Or.inr rfl) (pe_lst (pa_cons (pe_mkv T.oe_InvalidRule T.in_InvalidRule T.ti_InvalidRule (ok_InvalidRule_init T) (hr.mono (by decide)) T.b_InvalidRule_init .nil passN (by rfl) T.m_InvalidRule (pa_cons (pv 0) pa_nil)) (pa_cons (pe_mkv T.oe_InvalidRows T.in_InvalidRows T.ti_InvalidRows (ok_InvalidRows_init T) (hr.mono (by decide)) T.b_InvalidRows_init .nil passN (by rfl) T.m_InvalidRows (pa_cons (pv 0) pa_nil)) (pa_cons (pe_mkv T.oe_InvalidSayings T.in_InvalidSayings T.ti_InvalidSayings (ok_InvalidSayings_init T) (hr.mono (by decide)) T.b_InvalidSayings_init .nil passN (by rfl) T.m_InvalidSayings (pa_cons (pv 0) pa_nil)) (pa_cons (pe_mkv T.oe_InvalidGuards T.in_InvalidGuards T.ti_InvalidGuards (ok_InvalidGuards_init T) (hr.mono (by decide)) T.b_InvalidGuards_init .nil passN (by rfl) T.m_InvalidGuards (pa_cons (pv 0) pa_nil)) pa_nil))))))
    (pss_cons (ps_set (i := 1) sc_law_indexes.nd rfl (by first | exact Or.inl rfl | exact Or.inr rfl) (pe_op op_addD (pv 1) (pe_lst (pa_cons (pe_mkv T.oe_InvalidDeed T.in_InvalidDeed T.ti_InvalidDeed (ok_InvalidDeed_init T) (hr.mono (by decide)) T.b_InvalidDeed_init .nil passN (by rfl) T.m_InvalidDeed (pa_cons (pv 0) pa_nil)) (pa_cons (pe_mkvK T.oe_InvalidRule T.in_InvalidRule T.ti_InvalidRule (ok_InvalidRule_init T) (hr.mono (by decide)) T.kb_InvalidRule_init_1_index passN (by rfl) T.m_InvalidRule (pk_cons (pv 0) pk_nil)) (pa_cons (pe_mkvK T.oe_InvalidRows T.in_InvalidRows T.ti_InvalidRows (ok_InvalidRows_init T) (hr.mono (by decide)) T.kb_InvalidRows_init_1_index passN (by rfl) T.m_InvalidRows (pk_cons (pv 0) pk_nil)) pa_nil))))))
    (pss_cons (ps_set (i := 1) sc_law_indexes.nd rfl (by first | exact Or.inl rfl | exact Or.inr rfl) (pe_op op_addD (pv 1) (pe_lst (pa_cons (pe_mkvK T.oe_InvalidSayings T.in_InvalidSayings T.ti_InvalidSayings (ok_InvalidSayings_init T) (hr.mono (by decide)) T.kb_InvalidSayings_init_1_index passN (by rfl) T.m_InvalidSayings (pk_cons (pv 0) pk_nil)) (pa_cons (pe_mkvK T.oe_InvalidGuards T.in_InvalidGuards T.ti_InvalidGuards (ok_InvalidGuards_init T) (hr.mono (by decide)) T.kb_InvalidGuards_init_1_index passN (by rfl) T.m_InvalidGuards (pk_cons (pv 0) pk_nil)) pa_nil)))))
    (pss_cons (ps_set (i := 1) sc_law_indexes.nd rfl (by first | exact Or.inl rfl | exact Or.inr rfl) (pe_op op_addD (pv 1) (pe_lst (pa_cons (pe_mkvK T.oe_InvalidDeed T.in_InvalidDeed T.ti_InvalidDeed (ok_InvalidDeed_init T) (hr.mono (by decide)) T.kb_InvalidDeed_init_1_index passN (by rfl) T.m_InvalidDeed (pk_cons (pv 0) pk_nil)) pa_nil))))
    (pss_one (ps_ret (pv 1))))))),
    (sims_seq (sims_asg (i := 1) (sim_fz (sim_lstO (sim_cons (sim_mkX (sim_cons (sim_var (i := 0)) sim_nil)) (sim_cons (sim_mkX (sim_cons (sim_var (i := 0)) sim_nil)) (sim_cons (sim_mkX (sim_cons (sim_var (i := 0)) sim_nil)) (sim_cons (sim_mkX (sim_cons (sim_var (i := 0)) sim_nil)) sim_nil)))))))
    (sims_seq (sims_asg (i := 1) (sim_op sim_add (sim_var (i := 1)) (sim_fz (sim_lstO (sim_cons (sim_mkX (sim_cons (sim_var (i := 0)) sim_nil)) (sim_cons (sim_mkXK (fun _ _ => rfl) (sim_cons (sim_var (i := 0)) sim_nil)) (sim_cons (sim_mkXK (fun _ _ => rfl) (sim_cons (sim_var (i := 0)) sim_nil)) sim_nil)))))))
    (sims_seq (sims_asg (i := 1) (sim_op sim_add (sim_var (i := 1)) (sim_fz (sim_lstO (sim_cons (sim_mkXK (fun _ _ => rfl) (sim_cons (sim_var (i := 0)) sim_nil)) (sim_cons (sim_mkXK (fun _ _ => rfl) (sim_cons (sim_var (i := 0)) sim_nil)) sim_nil))))))
    (sims_seq (sims_asg (i := 1) (sim_op sim_add (sim_var (i := 1)) (sim_fz (sim_lstO (sim_cons (sim_mkXK (fun _ _ => rfl) (sim_cons (sim_var (i := 0)) sim_nil)) sim_nil)))))
    (sims_ret (sim_var (i := 1))))))), hw_law_indexes A⟩)
theorem ok_law_right (T : Txt K mg A F) (B : Tbs mg base F) : FnG P w K mg base (L2.CX P w) 4 F.a_law_right F.d_law_right ["_law_bag_here"] (spOf K 1 (S_law_right A)) := by
  exact okR_def T.F_law_right sc_law_right (by decide) (fun cdv Ar outer s H E hr hgd => ⟨_, w_law_right A,
    (pss_cons (ps_set (i := 1) sc_law_right.nd rfl (by first | exact Or.inl rfl | exact Or.inr rfl) (pe_lst (pa_cons (pe_op op_addD (pe_op op_powD pe_int pe_int) pe_int) (pa_cons pe_non (pa_cons pe_str (pa_cons (pe_tup (pa_cons pe_int (pa_cons pe_str pa_nil))) (pa_cons (pe_lst (pa_cons pe_int pa_nil)) (pa_cons (pe_fzD pe_dnewK) (pa_cons pe_bl (pa_cons (pe_un un_negD pe_int) (pa_cons (pe_tup (pa_cons pe_str (pa_cons (pe_tup pa_nil) pa_nil))) (pa_cons pe_str pa_nil))))))))))))
    (pss_cons (ps_par (i := 2) (j := 3) rfl sc_law_right.nd rfl rfl (by decide) rfl rfl (pa_cons (pe_call (E := E0) (ok_law_one T) (hr.mono (by decide)) (by rfl) T.g_law_one T.F_law_one.kp T.b_law_one .nil passN (pa_cons (pv 0) (pa_cons (pv 1) pa_nil))) (pa_cons (pe_call (E := E0) (ok_law_one T) (hr.mono (by decide)) (by rfl) T.g_law_one T.F_law_one.kp T.b_law_one .nil passN (pa_cons (pv 0) (pa_cons (pv 1) pa_nil))) pa_nil)) rfl)
    (pss_cons (ps_par (i := 4) (j := 5) rfl sc_law_right.nd rfl rfl (by decide) rfl rfl (pa_cons (pe_call (E := E0) (ok_law_values T) (hr.mono (by decide)) (by rfl) T.g_law_values T.F_law_values.kp T.b_law_values .nil passN (pa_cons (pv 2) pa_nil)) (pa_cons (pe_lst (pa_cons pe_int (pa_cons pe_int (pa_cons pe_int (pa_cons pe_int (pa_cons pe_int (pa_cons pe_int (pa_cons pe_int (pa_cons pe_int (pa_cons pe_int (pa_cons pe_int (pa_cons pe_int (pa_cons pe_int (pa_cons pe_int (pa_cons pe_int (pa_cons pe_int (pa_cons pe_int (pa_cons pe_int (pa_cons pe_int pa_nil))))))))))))))))))) pa_nil)) rfl)
    (pss_cons (ps_for PassesOwn.leaving rfl (pi_range1 (by rfl) T.z_range (pa_cons pe_int pa_nil)) (pg_name (i := 6) sc_law_right.nd rfl (by first | exact Or.inl rfl | exact Or.inr rfl)) (pss_one (ps_if (PW.pt (pw_or (pt_cmpR (op_neD (hu64 hr)) (pe_callB (call_reprN hgd (hu128 hr)) (by rfl) T.z_repr bt_repr (pa_cons (pe_xfV (P := inE (ec A)) (fun C h => ⟨inE_k T.eco h, inE_na T.eco h (by decide)⟩) (pe_ix ix_seq (pv 4) (pv 6) (fun _ _ => rfl))) pa_nil)) (pe_callB (call_reprN hgd (hu128 hr)) (by rfl) T.z_repr bt_repr (pa_cons (pv 2) pa_nil)) (nomark _)) (pw_or1 (pt_not (pt_val (pe_call (E := E0) (ok_law_is T) (hr.mono (by decide)) (by rfl) T.g_law_is T.F_law_is.kp T.b_law_is .nil passN (pa_cons (pe_ix ix_seq (pv 4) (pv 6) (fun _ _ => rfl)) (pa_cons (pe_ix ix_seq (pe_op op_addD (pv 5) (pv 5)) (pv 6) (fun _ _ => rfl)) pa_nil)))))))) (pss_one (ps_ret pe_bl)) pss_nil)))
    (pss_cons (ps_par (i := 4) (j := 5) rfl sc_law_right.nd rfl rfl (by decide) rfl rfl (pa_cons (pe_call (E := E0) (ok_law_indexes T) (hr.mono (by decide)) (by rfl) T.g_law_indexes T.F_law_indexes.kp T.b_law_indexes .nil passN (pa_cons (pv 2) pa_nil)) (pa_cons (pe_lst (pa_cons pe_int (pa_cons pe_int (pa_cons pe_int (pa_cons pe_int (pa_cons pe_int pa_nil)))))) pa_nil)) rfl)
    (pss_cons (ps_for PassesOwn.leaving rfl (pi_range1 (by rfl) T.z_range (pa_cons pe_int pa_nil)) (pg_name (i := 6) sc_law_right.nd rfl (by first | exact Or.inl rfl | exact Or.inr rfl)) (pss_one (ps_if (PW.pt (pw_or (pt_cmpR (op_neD (hu64 hr)) (pe_callB (call_reprN hgd (hu128 hr)) (by rfl) T.z_repr bt_repr (pa_cons (pe_xfV (P := inE (ec A)) (fun C h => ⟨inE_k T.eco h, inE_na T.eco h (by decide)⟩) (pe_ix ix_seq (pv 4) (pv 6) (fun _ _ => rfl))) pa_nil)) (pe_callB (call_reprN hgd (hu128 hr)) (by rfl) T.z_repr bt_repr (pa_cons (pv 2) pa_nil)) (nomark _)) (pw_or1 (pt_not (pt_val (pe_call (E := E0) (ok_law_is T) (hr.mono (by decide)) (by rfl) T.g_law_is T.F_law_is.kp T.b_law_is .nil passN (pa_cons (pe_ix ix_seq (pv 4) (pv 6) (fun _ _ => rfl)) (pa_cons (pe_ix ix_seq (pe_op op_addD (pv 5) (pv 5)) (pv 6) (fun _ _ => rfl)) pa_nil)))))))) (pss_one (ps_ret pe_bl)) pss_nil)))
    (pss_one (ps_ret (pe_callG (E := E0) (ok_law_others_right T B) (hr.mono (by decide)) hgd (by rfl) T.g_law_others_right T.F_law_others_right.kp T.b_law_others_right passN (pa_cons (pv 2) (pa_cons (pv 3) pa_nil))))))))))),
    (sims_seq (sims_asg (i := 1) (sim_fz (sim_lstO (sim_cons (sim_op sim_add (sim_op sim_pow sim_int sim_int) sim_int) (sim_cons sim_non (sim_cons sim_str (sim_cons (sim_tup (sim_cons sim_int (sim_cons sim_str sim_nil))) (sim_cons (sim_fz (sim_lstO (sim_cons sim_int sim_nil))) (sim_cons (sim_fzD simn_dict) (sim_cons sim_bl (sim_cons (sim_un sim_neg sim_int) (sim_cons (sim_tup (sim_cons sim_str (sim_cons (sim_tup sim_nil) sim_nil))) (sim_cons sim_str sim_nil)))))))))))))
    (sims_seq (sims_par (i := 2) (j := 3) (sim_call0 rd0 (sim_cons (sim_var (i := 0)) (sim_cons (sim_var (i := 1)) sim_nil))) (sim_call0 rd0 (sim_cons (sim_var (i := 0)) (sim_cons (sim_var (i := 1)) sim_nil))))
    (sims_seq (sims_par (i := 4) (j := 5) (sim_call0 rd0 (sim_cons (sim_var (i := 2)) sim_nil)) (sim_fz (sim_lstO (sim_cons sim_int (sim_cons sim_int (sim_cons sim_int (sim_cons sim_int (sim_cons sim_int (sim_cons sim_int (sim_cons sim_int (sim_cons sim_int (sim_cons sim_int (sim_cons sim_int (sim_cons sim_int (sim_cons sim_int (sim_cons sim_int (sim_cons sim_int (sim_cons sim_int (sim_cons sim_int (sim_cons sim_int (sim_cons sim_int sim_nil)))))))))))))))))))))
    (sims_seq (sims_for (simi_rng1 (sim_cons sim_int sim_nil)) (simg_name (i := 6)) (sims_if (simt_or (simt_test (sim_op sim_ne (sim_cb sim_reprN (sim_cons (sim_xfX (sim_op sim_ix (sim_var (i := 4)) (sim_var (i := 6)))) sim_nil)) (sim_cb sim_reprN (sim_cons (sim_var (i := 2)) sim_nil)))) (simt_not (simt_B (sim_call0 rd0 (sim_cons (sim_op sim_ix (sim_var (i := 4)) (sim_var (i := 6))) (sim_cons (sim_op sim_ix (sim_op sim_add (sim_var (i := 5)) (sim_var (i := 5))) (sim_var (i := 6))) sim_nil)))))) (sims_ret sim_bl) sims_next))
    (sims_seq (sims_par (i := 4) (j := 5) (sim_call0 rd0 (sim_cons (sim_var (i := 2)) sim_nil)) (sim_fz (sim_lstO (sim_cons sim_int (sim_cons sim_int (sim_cons sim_int (sim_cons sim_int (sim_cons sim_int sim_nil))))))))
    (sims_seq (sims_for (simi_rng1 (sim_cons sim_int sim_nil)) (simg_name (i := 6)) (sims_if (simt_or (simt_test (sim_op sim_ne (sim_cb sim_reprN (sim_cons (sim_xfX (sim_op sim_ix (sim_var (i := 4)) (sim_var (i := 6)))) sim_nil)) (sim_cb sim_reprN (sim_cons (sim_var (i := 2)) sim_nil)))) (simt_not (simt_B (sim_call0 rd0 (sim_cons (sim_op sim_ix (sim_var (i := 4)) (sim_var (i := 6))) (sim_cons (sim_op sim_ix (sim_op sim_add (sim_var (i := 5)) (sim_var (i := 5))) (sim_var (i := 6))) sim_nil)))))) (sims_ret sim_bl) sims_next))
    (sims_ret (sim_call0 rd0 (sim_cons (sim_var (i := 2)) (sim_cons (sim_var (i := 3)) sim_nil)))))))))), hw_law_right A⟩)
theorem ok_law_bag (T : Txt K mg A F) : FnOk P w K mg base (L2.CX P w) 1 F.a_law_bag F.d_law_bag ["_law_cells", "_law_k"] (spOf K 2 (S_law_bag A)) := by
  exact ok_def T.F_law_bag sc_law_bag (by decide) (fun cdv Ar outer s H E hr => ⟨_, w_law_bag A,
    (pss_cons (ps_par (i := 2) (j := 3) rfl sc_law_bag.nd rfl rfl (by decide) rfl rfl (pa_cons (pe_ifExp (pt_cmpR op_ltD (pv 1) (pe_callB call_len (by rfl) T.z_len bt_len (pa_cons (pv 0) pa_nil)) (nomark _)) (pe_callTy call_int1 (by rfl) T.z_int bt_int (pa_cons (pe_ix ix_seq (pv 0) (pv 1) (fun _ _ => rfl)) pa_nil)) pe_int) (pa_cons (pe_op op_mulT pe_int (pe_op op_addD (pv 1) pe_int)) pa_nil)) rfl)
    (pss_cons (ps_for PassesOwn.leaving rfl (pi_list (pe_slice sl_D (pv 0) po_none (po_some pe_int))) (pg_name (i := 4) sc_law_bag.nd rfl (by first | exact Or.inl rfl | exact Or.inr rfl)) (pss_one (ps_set (i := 3) sc_law_bag.nd rfl (by first | exact Or.inl rfl | exact Or.inr rfl) (pe_op op_modD (pe_callTy call_int1 (by rfl) T.z_int bt_int (pa_cons (pe_op op_addD (pe_op op_addD (pe_op op_mulT (pv 3) pe_int) (pe_op op_modD (pe_callTy call_int1 (by rfl) T.z_int bt_int (pa_cons (pv 4) pa_nil)) pe_int)) (pe_op op_mulT pe_int (pv 1))) pa_nil)) pe_int))))
    (pss_cons (ps_set (i := 5) sc_law_bag.nd rfl (by first | exact Or.inl rfl | exact Or.inr rfl) (pe_ifExp (PW.pt (pw_or (pt_cmpR op_ltD (pv 2) pe_int (nomark _)) (pw_or1 (pt_cmpR op_geD (pv 2) (pe_op op_powD pe_int pe_int) (nomark _))))) (pe_callB call_abs (by rfl) T.z_abs bt_abs (pa_cons (pv 2) pa_nil)) pe_int))
    (pss_one (ps_ret (pe_asBag (pe_lst (pa_cons (pv 5) (pa_cons (pe_op op_modD (pe_callTy call_int1 (by rfl) T.z_int bt_int (pa_cons (pe_op op_addD (pv 3) (pe_op op_mulT pe_int (pe_op op_modD (pe_callTy call_int1 (by rfl) T.z_int bt_int (pa_cons (pv 2) pa_nil)) pe_int))) pa_nil)) pe_int) (pa_cons pe_int pa_nil)))))))))),
    (sims_seq (sims_par (i := 2) (j := 3) (sim_if (simt_test (sim_op sim_lt (sim_var (i := 1)) (sim_cb sim_len (sim_cons (sim_var (i := 0)) sim_nil)))) (sim_cb sim_toInt (sim_cons (sim_op sim_ix (sim_var (i := 0)) (sim_var (i := 1))) sim_nil)) sim_int) (sim_op sim_mulT sim_int (sim_op sim_add (sim_var (i := 1)) sim_int)))
    (sims_seq (sims_for (simi_list (sim_sl (sim_var (i := 0)) simp_no (simp_part sim_int))) (simg_name (i := 4)) (sims_asg (i := 3) (sim_op sim_mod (sim_cb sim_toInt (sim_cons (sim_op sim_add (sim_op sim_add (sim_op sim_mulT (sim_var (i := 3)) sim_int) (sim_op sim_mod (sim_cb sim_toInt (sim_cons (sim_var (i := 4)) sim_nil)) sim_int)) (sim_op sim_mulT sim_int (sim_var (i := 1)))) sim_nil)) sim_int)))
    (sims_seq (sims_asg (i := 5) (sim_if (simt_or (simt_test (sim_op sim_lt (sim_var (i := 2)) sim_int)) (simt_test (sim_op sim_ge (sim_var (i := 2)) (sim_op sim_pow sim_int sim_int)))) (sim_cb sim_abs (sim_cons (sim_var (i := 2)) sim_nil)) sim_int))
    (sims_ret (sim_asBag (sim_lstO (sim_cons (sim_var (i := 5)) (sim_cons (sim_op sim_mod (sim_cb sim_toInt (sim_cons (sim_op sim_add (sim_var (i := 3)) (sim_op sim_mulT sim_int (sim_op sim_mod (sim_cb sim_toInt (sim_cons (sim_var (i := 2)) sim_nil)) sim_int))) sim_nil)) sim_int) (sim_cons sim_int sim_nil))))))))), hw_law_bag A⟩)
theorem ok_law (T : Txt K mg A F) (B : Tbs mg base F) : FnG P w K mg base (L2.CX P w) 5 F.a_law F.d_law ["_law_cells"] (spOf K 1 (S_law A)) := by
  obtain ⟨u_MOST_CONSTANT, m_MOST_CONSTANT, r_MOST_CONSTANT⟩ := T.v_MOST_CONSTANT
  obtain ⟨u_MOST_DEEDS, m_MOST_DEEDS, r_MOST_DEEDS⟩ := T.v_MOST_DEEDS
  obtain ⟨u_MOST_DEPTH, m_MOST_DEPTH, r_MOST_DEPTH⟩ := T.v_MOST_DEPTH
  obtain ⟨u_MOST_LENGTH, m_MOST_LENGTH, r_MOST_LENGTH⟩ := T.v_MOST_LENGTH
  obtain ⟨u_MOST_MACHINE, m_MOST_MACHINE, r_MOST_MACHINE⟩ := T.v_MOST_MACHINE
  obtain ⟨u_MOST_NAMES, m_MOST_NAMES, r_MOST_NAMES⟩ := T.v_MOST_NAMES
  obtain ⟨u_MOST_NUMBER, m_MOST_NUMBER, r_MOST_NUMBER⟩ := T.v_MOST_NUMBER
  obtain ⟨u_MOST_PARTS, m_MOST_PARTS, r_MOST_PARTS⟩ := T.v_MOST_PARTS
  obtain ⟨u_MOST_ROWS, m_MOST_ROWS, r_MOST_ROWS⟩ := T.v_MOST_ROWS
  obtain ⟨u_MOST_SAYINGS, m_MOST_SAYINGS, r_MOST_SAYINGS⟩ := T.v_MOST_SAYINGS
  obtain ⟨u_MOST_STANDS, m_MOST_STANDS, r_MOST_STANDS⟩ := T.v_MOST_STANDS
  obtain ⟨u_MOST_STEP, m_MOST_STEP, r_MOST_STEP⟩ := T.v_MOST_STEP
  obtain ⟨u_MOST_TERM, m_MOST_TERM, r_MOST_TERM⟩ := T.v_MOST_TERM
  obtain ⟨u_MOST_WISHES, m_MOST_WISHES, r_MOST_WISHES⟩ := T.v_MOST_WISHES
  exact okR_def T.F_law sc_law (by decide) (fun cdv Ar outer s H E hr hgd => ⟨_, w_law A,
    (pss_cons (ps_set (i := 1) sc_law.nd rfl (by first | exact Or.inl rfl | exact Or.inr rfl) (pe_lst (pa_cons (pe_glob (by rfl) m_MOST_STEP r_MOST_STEP) (pa_cons (pe_glob (by rfl) m_MOST_STANDS r_MOST_STANDS) (pa_cons (pe_glob (by rfl) m_MOST_ROWS r_MOST_ROWS) (pa_cons (pe_glob (by rfl) m_MOST_SAYINGS r_MOST_SAYINGS) (pa_cons (pe_glob (by rfl) m_MOST_NAMES r_MOST_NAMES) (pa_cons (pe_glob (by rfl) m_MOST_TERM r_MOST_TERM) (pa_cons (pe_glob (by rfl) m_MOST_CONSTANT r_MOST_CONSTANT) pa_nil)))))))))
    (pss_cons (ps_set (i := 1) sc_law.nd rfl (by first | exact Or.inl rfl | exact Or.inr rfl) (pe_op op_addD (pv 1) (pe_lst (pa_cons (pe_glob (by rfl) m_MOST_WISHES r_MOST_WISHES) (pa_cons (pe_glob (by rfl) m_MOST_DEPTH r_MOST_DEPTH) (pa_cons (pe_glob (by rfl) m_MOST_PARTS r_MOST_PARTS) (pa_cons (pe_glob (by rfl) m_MOST_MACHINE r_MOST_MACHINE) (pa_cons (pe_glob (by rfl) m_MOST_NUMBER r_MOST_NUMBER) (pa_cons (pe_glob (by rfl) m_MOST_LENGTH r_MOST_LENGTH) (pa_cons (pe_glob (by rfl) m_MOST_DEEDS r_MOST_DEEDS) pa_nil))))))))))
    (pss_cons (ps_if (pt_cmpR (op_neD (hu64 hr)) (pe_callB (call_reprN hgd (hu128 hr)) (by rfl) T.z_repr bt_repr (pa_cons (pv 1) pa_nil)) (pe_callB (call_reprN hgd (hu128 hr)) (by rfl) T.z_repr bt_repr (pa_cons (pe_lst (pa_cons pe_int (pa_cons pe_int (pa_cons pe_int (pa_cons pe_int (pa_cons pe_int (pa_cons pe_int (pa_cons pe_int (pa_cons pe_int (pa_cons pe_int (pa_cons pe_int (pa_cons pe_int (pa_cons (pe_op op_powD pe_int pe_int) (pa_cons pe_int (pa_cons pe_int pa_nil))))))))))))))) pa_nil)) (nomark _)) (pss_one (ps_ret pe_bl)) pss_nil)
    (pss_one (ps_ret (pe_callB (cr_all rfl) (by rfl) T.z_all bt_all (pa_cons (pe_lc rfl sc_law.nd (pi_range1 (by rfl) T.z_range (pa_cons (pe_callB (call_max2 rfl) (by rfl) T.z_max bt_max (pa_cons pe_int (pa_cons (pe_callB (call_min2 rfl) (by rfl) T.z_min bt_min (pa_cons (pe_callB call_len (by rfl) T.z_len bt_len (pa_cons (pv 0) pa_nil)) (pa_cons pe_int pa_nil))) pa_nil))) pa_nil)) (own := [("_law_k", 2)]) (blkOk_by (by kernel_rfl)) (fun _ _ _ _ _ => (pg_name (i := 2) sc_law.nd rfl (by first | exact Or.inl rfl | exact Or.inr rfl))) (fun _ _ _ _ _ => pts_nil) (fun _ _ _ _ _ => (pe_callG (E := E0) (ok_law_right T B) (hr.mono (by decide)) hgd (by rfl) T.g_law_right T.F_law_right.kp T.b_law_right passN (pa_cons (pe_call (E := E0) (ok_law_bag T) (hr.mono (by decide)) (by rfl) T.g_law_bag T.F_law_bag.kp T.b_law_bag .nil passN (pa_cons (pv 0) (pa_cons (pv 2) pa_nil))) pa_nil)))) pa_nil))))))),
    (sims_seq (sims_asg (i := 1) (sim_fz (sim_lstO (sim_cons sim_int (sim_cons sim_int (sim_cons sim_int (sim_cons sim_int (sim_cons sim_int (sim_cons sim_int (sim_cons sim_int sim_nil))))))))))
    (sims_seq (sims_asg (i := 1) (sim_op sim_add (sim_var (i := 1)) (sim_fz (sim_lstO (sim_cons sim_int (sim_cons sim_int (sim_cons sim_int (sim_cons sim_int (sim_cons sim_int (sim_cons sim_int (sim_cons sim_int sim_nil)))))))))))
    (sims_seq (sims_if (simt_test (sim_op sim_ne (sim_cb sim_reprN (sim_cons (sim_var (i := 1)) sim_nil)) (sim_cb sim_reprN (sim_cons (sim_fz (sim_lstO (sim_cons sim_int (sim_cons sim_int (sim_cons sim_int (sim_cons sim_int (sim_cons sim_int (sim_cons sim_int (sim_cons sim_int (sim_cons sim_int (sim_cons sim_int (sim_cons sim_int (sim_cons sim_int (sim_cons (sim_op sim_pow sim_int sim_int) (sim_cons sim_int (sim_cons sim_int sim_nil)))))))))))))))) sim_nil)))) (sims_ret sim_bl) sims_next)
    (sims_ret (sim_cbl sim_allL (siml_O (simo_lc (simi_rng1 (sim_cons (sim_cb sim_max2 (sim_cons sim_int (sim_cons (sim_cb sim_min2 (sim_cons (sim_cb sim_len (sim_cons (sim_var (i := 0)) sim_nil)) (sim_cons sim_int sim_nil))) sim_nil))) sim_nil)) (simg_name (i := 2)) simt_yes (sim_call0 rd0 (sim_cons (sim_call0 rd0 (sim_cons (sim_var (i := 0)) (sim_cons (sim_var (i := 2)) sim_nil))) sim_nil)) (by decide)))))))), hw_law A⟩)
end
end Lw
namespace Lw
open PySem PySem.W PyProof.Rows PySem.Calls HeadRun DL
abbrev pw : Program := PySem.Challenge.pw_goldenrows_k12_errors_and_limits
open_shared top for PySem.Challenge.pw_goldenrows_k12_errors_and_limits leaving 28
noncomputable def Sb (w : World) (os : OsState) : SharedT := ⟨top.tree_4 w.params, 15, {}, Array.mk [], {}, 187, os⟩
noncomputable def Sk (w : World) (os : OsState) : SharedT := ⟨top.tree_697 w.params, 583, {}, Array.mk [], {}, 939, os⟩
noncomputable def bd : List Stmt := behindTheImports pw
noncomputable def rs : List Stmt := bd.drop 33
def p0 : Pos := ⟨0, 0, 0, 0⟩
def pK : Pos := ⟨116, 0, 117, 8⟩
def fr : List Frame := [topFrame p0]
noncomputable def Tb (_ : World) : Thread := ⟨denote treeTable (Code.body bd top.env_1), Code.body bd top.env_1, p0, fr⟩
noncomputable def Tk (_ : World) : Thread := restOf rs top.env_1 (Code.body bd top.env_1) pK fr
theorem run1 : ∀ (w : World) (os : OsState), endG (stepQ (denQ tabQ) pw w) 12 pw w os = some (11, Sb w os, Tb w) := fun w os => by
  show _ = some (11, Sb w os, (⟨denote treeTable (Code.body bd top.env_1), Code.body bd top.env_1, p0, fr⟩ : Thread))
  rw [denQ_eq, tabQ_eq]
  kernel_rfl
theorem annE (w : World) : bootAnn w = some (Value.ref 6) := by kernel_rfl
theorem blk (w : World) (os : OsState) : segRun treeTable pw w 11 (some (Value.ref 6)) 1 1 (Sb w os).abs (blockOf bd top.env_1 (Code.body bd top.env_1) p0 fr) = some (.next, (Sb w os).abs, Code.body bd top.env_1, p0) := by kernel_rfl
theorem bdE : top.sts_4 ++ (top.sts_21 ++ (top.sts_44 ++ (top.sts_67 ++ (top.sts_90 ++ (top.sts_113 ++ (top.sts_136 ++ (top.sts_159 ++ (top.sts_182 ++ (top.sts_205 ++ (top.sts_228 ++ (top.sts_251 ++ (top.sts_274 ++ (top.sts_297 ++ (top.sts_320 ++ (top.sts_343 ++ (top.sts_366 ++ (top.sts_389 ++ (top.sts_412 ++ (top.sts_435 ++ (top.sts_458 ++ (top.sts_481 ++ (top.sts_504 ++ (top.sts_520 ++ (top.sts_543 ++ (top.sts_566 ++ (top.sts_589 ++ (top.sts_612 ++ (top.sts_628 ++ (top.sts_644 ++ (top.sts_667 ++ (top.sts_683 ++ (rs)))))))))))))))))))))))))))))))) = bd := by kernel_rfl
theorem ch (w : World) (os : OsState) (r : Shared) (h : topRun treeTable pw w 11 (bootAnn w) 2498 (Sk w os).abs (Tk w) = some r) : topRun treeTable pw w 11 (bootAnn w) 10134 (Sb w os).abs (Tb w) = some r := by
  rw [annE] at h ⊢
  have h2 := top.chain pw bd w os rs 2498 r h
  rw [bdE] at h2
  exact piece_block (n := 1) (blk w os) h2
def vw : Program := view pw (([1, 2, 3, 4, 5, 6, 7, 8, 9, 10, 11, 12, 13, 14, 15, 16, 17, 18, 19, 20, 21, 22, 23, 24, 25, 26, 27, 28, 29, 30] : List Nat) ++ ([31, 32, 33, 34, 35, 36, 37, 38, 39, 40, 41, 42, 43, 44, 45, 46, 47, 48, 49, 51, 52, 53, 54, 55, 56, 57, 58, 59, 60] : List Nat))
def lv : List (PySem.Str × WData) := [("MOST_NUMBER", WData.int 10000000000000000000000000000000000000000)]
def lo : List PySem.Str := ["MOST_NUMBER"]
abbrev RR : OpenRow := OpenLaw.row PySem.Challenge.rw_goldenrows_k12_errors_and_limits
noncomputable def gR (w : World) (os : OsState) : Option SharedT := goF (stepQ (denQ tabQ) pw w) 11 (bootAnn w) 2498 (Sk w os) (Tk w)
noncomputable abbrev sQ (s : SharedT) := seenQ vw lo (importedModules pw.main.body) (fun s => xlAt vw lv s && recOk (RowW.records (OpenRow.toRowW RR)) s) s.abs
theorem hA : ∀ (w : World) (os : OsState), (gR w os).map (fun s => looksF pw (boot_heap w.params) s.abs) = some true := fun w os => by kernel_rfl
theorem hB : ∀ (w : World) (os : OsState), (gR w os).map (fun s => (sQ s).1) = some (expectedOf vw) := fun w os => by kernel_rfl
theorem hC : ∀ (w : World) (os : OsState), (gR w os).map (fun s => (sQ s).2.1) = some (bltViewBooted) := fun w os => by kernel_rfl
theorem hD : ∀ (w : World) (os : OsState), (gR w os).map (fun s => (sQ s).2.2.1) = some (true) := fun w os => by kernel_rfl
theorem hE : ∀ (w : World) (os : OsState), (gR w os).map (fun s => (sQ s).2.2.2.1) = some (true) := fun w os => by kernel_rfl
theorem hF : ∀ (w : World) (os : OsState), (gR w os).map (fun s => (sQ s).2.2.2.2.1) = some (pinGoodD (drecsOf vw)) := fun w os => by kernel_rfl
theorem hG : ∀ (w : World) (os : OsState), (gR w os).map (fun s => (sQ s).2.2.2.2.2.1) = some (plainGoodE vw (looseW vw lo)) := fun w os => by kernel_rfl
theorem hH : ∀ (w : World) (os : OsState), (gR w os).map (fun s => (sQ s).2.2.2.2.2.2.1) = some (plainGoodD vw lo) := fun w os => by kernel_rfl
theorem hI : ∀ (w : World) (os : OsState), (gR w os).map (fun s => (sQ s).2.2.2.2.2.2.2.1) = some (wideGood vw) := fun w os => by kernel_rfl
theorem hJ : ∀ (w : World) (os : OsState), (gR w os).map (fun s => (sQ s).2.2.2.2.2.2.2.2) = some (clsGoodW vw lo) := fun w os => by kernel_rfl
def dd : DefRec := HandSHeadRun.topDef pw 60
theorem c1 : defOf vw RR.name = some (dd, []) := by kernel_rfl
theorem c2 : RR.prog.theDef RR.name = some (dd.params, dd.body, dd.scope) := by kernel_rfl
theorem c3 : kwWritten? dd.params.kwonlyargs dd.params.kw_defaults = some [] := by kernel_rfl
theorem c4 : (!RR.writes || RR.records.isEmpty) = true := by rfl
theorem c5 : (chainsOk vw && opensWell RR.prog && (frees RR.toRowW && RR.within.isEmpty)) = true := by decide +kernel
theorem c6 : RR.prog.bare := ⟨rfl, rfl, rfl, rfl, rfl, by decide +kernel⟩
theorem c7 : opening RR.prog = plainProg RR.prog.main.scope.names := by kernel_rfl
theorem c8 : ∀ s, fenceModules? RR.prog s = some s := fun s => by kernel_rfl
end Lw
namespace Lw
open PySem L2 DL
open PySem.Spec PyProof.Rows
theorem all_mk {l : PySem.W.OpenLaw} {w : World} {K : PySem.W.Frag} {h : Heap} {mg : Str → Option Value} {fa c_ShapeError c_InvalidStep c_InvalidNumber c_InvalidNumbers c_InvalidDigits c_InvalidMoves c_InvalidSigns c_InvalidRule c_InvalidName c_InvalidWish c_InvalidText c_InvalidRows c_InvalidSayings c_InvalidGood c_InvalidGuards c_InvalidDeed c_InvalidLine c_NotASystem c_NotARow c_NotAWish c_NotABook c_NotAMachine c_QuestionError c_OtherSystem c_OtherNames c_UnknownRow c_UnknownSaying c_Never c_Endless c_TooFew c_Busy c_NothingToUndo c_Refused c_SizeError c_TooMany f_Refused_init f_OtherSystem_init f_OtherNames_init f_TooFew_init f_TooMany_init f_law_classes f_law_is f_law_others_right f_law_draw f_law_one f_InvalidStep_init f_InvalidNumber_init f_InvalidNumbers_init f_InvalidDigits_init f_InvalidMoves_init f_InvalidSigns_init f_InvalidName_init f_InvalidWish_init f_InvalidText_init f_InvalidGood_init f_InvalidLine_init f_NotASystem_init f_NotARow_init f_NotAWish_init f_NotABook_init f_NotAMachine_init f_UnknownRow_init f_UnknownSaying_init f_law_values f_InvalidRule_init f_InvalidRows_init f_InvalidSayings_init f_InvalidGuards_init f_InvalidDeed_init f_law_indexes f_law_right f_law_bag f_law : Addr} {oc_Refused_init kV_Refused_init dc_Refused_init pm_Refused_init cd_Refused_init ct_Refused_init : Value} {od_Refused_init an_Refused_init : Option Addr} {sl_Refused_init : Array (Option Value)}
    {oc_OtherSystem_init kV_OtherSystem_init dc_OtherSystem_init pm_OtherSystem_init cd_OtherSystem_init ct_OtherSystem_init : Value} {od_OtherSystem_init an_OtherSystem_init : Option Addr} {sl_OtherSystem_init : Array (Option Value)}
    {oc_OtherNames_init kV_OtherNames_init dc_OtherNames_init pm_OtherNames_init cd_OtherNames_init ct_OtherNames_init : Value} {od_OtherNames_init an_OtherNames_init : Option Addr} {sl_OtherNames_init : Array (Option Value)}
    {oc_TooFew_init kV_TooFew_init dc_TooFew_init pm_TooFew_init cd_TooFew_init ct_TooFew_init : Value} {od_TooFew_init an_TooFew_init : Option Addr} {sl_TooFew_init : Array (Option Value)}
    {oc_TooMany_init kV_TooMany_init dc_TooMany_init pm_TooMany_init cd_TooMany_init ct_TooMany_init : Value} {od_TooMany_init an_TooMany_init : Option Addr} {sl_TooMany_init : Array (Option Value)}
    {oc_law_classes kV_law_classes dc_law_classes pm_law_classes cd_law_classes ct_law_classes : Value} {od_law_classes an_law_classes : Option Addr} {sl_law_classes : Array (Option Value)}
    {oc_law_is kV_law_is dc_law_is pm_law_is cd_law_is ct_law_is : Value} {od_law_is an_law_is : Option Addr} {sl_law_is : Array (Option Value)}
    {oc_law_others_right kV_law_others_right dc_law_others_right pm_law_others_right cd_law_others_right ct_law_others_right : Value} {od_law_others_right an_law_others_right : Option Addr} {sl_law_others_right : Array (Option Value)}
    {oc_law_draw kV_law_draw dc_law_draw pm_law_draw cd_law_draw ct_law_draw : Value} {od_law_draw an_law_draw : Option Addr} {sl_law_draw : Array (Option Value)}
    {oc_law_one kV_law_one dc_law_one pm_law_one cd_law_one ct_law_one : Value} {od_law_one an_law_one : Option Addr} {sl_law_one : Array (Option Value)}
    {oc_InvalidStep_init kV_InvalidStep_init dc_InvalidStep_init pm_InvalidStep_init cd_InvalidStep_init ct_InvalidStep_init : Value} {od_InvalidStep_init an_InvalidStep_init : Option Addr} {sl_InvalidStep_init : Array (Option Value)}
    {oc_InvalidNumber_init kV_InvalidNumber_init dc_InvalidNumber_init pm_InvalidNumber_init cd_InvalidNumber_init ct_InvalidNumber_init : Value} {od_InvalidNumber_init an_InvalidNumber_init : Option Addr} {sl_InvalidNumber_init : Array (Option Value)}
    {oc_InvalidNumbers_init kV_InvalidNumbers_init dc_InvalidNumbers_init pm_InvalidNumbers_init cd_InvalidNumbers_init ct_InvalidNumbers_init : Value} {od_InvalidNumbers_init an_InvalidNumbers_init : Option Addr} {sl_InvalidNumbers_init : Array (Option Value)}
    {oc_InvalidDigits_init kV_InvalidDigits_init dc_InvalidDigits_init pm_InvalidDigits_init cd_InvalidDigits_init ct_InvalidDigits_init : Value} {od_InvalidDigits_init an_InvalidDigits_init : Option Addr} {sl_InvalidDigits_init : Array (Option Value)}
    {oc_InvalidMoves_init kV_InvalidMoves_init dc_InvalidMoves_init pm_InvalidMoves_init cd_InvalidMoves_init ct_InvalidMoves_init : Value} {od_InvalidMoves_init an_InvalidMoves_init : Option Addr} {sl_InvalidMoves_init : Array (Option Value)}
    {oc_InvalidSigns_init kV_InvalidSigns_init dc_InvalidSigns_init pm_InvalidSigns_init cd_InvalidSigns_init ct_InvalidSigns_init : Value} {od_InvalidSigns_init an_InvalidSigns_init : Option Addr} {sl_InvalidSigns_init : Array (Option Value)}
    {oc_InvalidName_init kV_InvalidName_init dc_InvalidName_init pm_InvalidName_init cd_InvalidName_init ct_InvalidName_init : Value} {od_InvalidName_init an_InvalidName_init : Option Addr} {sl_InvalidName_init : Array (Option Value)}
    {oc_InvalidWish_init kV_InvalidWish_init dc_InvalidWish_init pm_InvalidWish_init cd_InvalidWish_init ct_InvalidWish_init : Value} {od_InvalidWish_init an_InvalidWish_init : Option Addr} {sl_InvalidWish_init : Array (Option Value)}
    {oc_InvalidText_init kV_InvalidText_init dc_InvalidText_init pm_InvalidText_init cd_InvalidText_init ct_InvalidText_init : Value} {od_InvalidText_init an_InvalidText_init : Option Addr} {sl_InvalidText_init : Array (Option Value)}
    {oc_InvalidGood_init kV_InvalidGood_init dc_InvalidGood_init pm_InvalidGood_init cd_InvalidGood_init ct_InvalidGood_init : Value} {od_InvalidGood_init an_InvalidGood_init : Option Addr} {sl_InvalidGood_init : Array (Option Value)}
    {oc_InvalidLine_init kV_InvalidLine_init dc_InvalidLine_init pm_InvalidLine_init cd_InvalidLine_init ct_InvalidLine_init : Value} {od_InvalidLine_init an_InvalidLine_init : Option Addr} {sl_InvalidLine_init : Array (Option Value)}
    {oc_NotASystem_init kV_NotASystem_init dc_NotASystem_init pm_NotASystem_init cd_NotASystem_init ct_NotASystem_init : Value} {od_NotASystem_init an_NotASystem_init : Option Addr} {sl_NotASystem_init : Array (Option Value)}
    {oc_NotARow_init kV_NotARow_init dc_NotARow_init pm_NotARow_init cd_NotARow_init ct_NotARow_init : Value} {od_NotARow_init an_NotARow_init : Option Addr} {sl_NotARow_init : Array (Option Value)}
    {oc_NotAWish_init kV_NotAWish_init dc_NotAWish_init pm_NotAWish_init cd_NotAWish_init ct_NotAWish_init : Value} {od_NotAWish_init an_NotAWish_init : Option Addr} {sl_NotAWish_init : Array (Option Value)}
    {oc_NotABook_init kV_NotABook_init dc_NotABook_init pm_NotABook_init cd_NotABook_init ct_NotABook_init : Value} {od_NotABook_init an_NotABook_init : Option Addr} {sl_NotABook_init : Array (Option Value)}
    {oc_NotAMachine_init kV_NotAMachine_init dc_NotAMachine_init pm_NotAMachine_init cd_NotAMachine_init ct_NotAMachine_init : Value} {od_NotAMachine_init an_NotAMachine_init : Option Addr} {sl_NotAMachine_init : Array (Option Value)}
    {oc_UnknownRow_init kV_UnknownRow_init dc_UnknownRow_init pm_UnknownRow_init cd_UnknownRow_init ct_UnknownRow_init : Value} {od_UnknownRow_init an_UnknownRow_init : Option Addr} {sl_UnknownRow_init : Array (Option Value)}
    {oc_UnknownSaying_init kV_UnknownSaying_init dc_UnknownSaying_init pm_UnknownSaying_init cd_UnknownSaying_init ct_UnknownSaying_init : Value} {od_UnknownSaying_init an_UnknownSaying_init : Option Addr} {sl_UnknownSaying_init : Array (Option Value)}
    {oc_law_values kV_law_values dc_law_values pm_law_values cd_law_values ct_law_values : Value} {od_law_values an_law_values : Option Addr} {sl_law_values : Array (Option Value)}
    {oc_InvalidRule_init kV_InvalidRule_init dc_InvalidRule_init pm_InvalidRule_init cd_InvalidRule_init ct_InvalidRule_init : Value} {od_InvalidRule_init an_InvalidRule_init : Option Addr} {sl_InvalidRule_init : Array (Option Value)}
    {oc_InvalidRows_init kV_InvalidRows_init dc_InvalidRows_init pm_InvalidRows_init cd_InvalidRows_init ct_InvalidRows_init : Value} {od_InvalidRows_init an_InvalidRows_init : Option Addr} {sl_InvalidRows_init : Array (Option Value)}
    {oc_InvalidSayings_init kV_InvalidSayings_init dc_InvalidSayings_init pm_InvalidSayings_init cd_InvalidSayings_init ct_InvalidSayings_init : Value} {od_InvalidSayings_init an_InvalidSayings_init : Option Addr} {sl_InvalidSayings_init : Array (Option Value)}
    {oc_InvalidGuards_init kV_InvalidGuards_init dc_InvalidGuards_init pm_InvalidGuards_init cd_InvalidGuards_init ct_InvalidGuards_init : Value} {od_InvalidGuards_init an_InvalidGuards_init : Option Addr} {sl_InvalidGuards_init : Array (Option Value)}
    {oc_InvalidDeed_init kV_InvalidDeed_init dc_InvalidDeed_init pm_InvalidDeed_init cd_InvalidDeed_init ct_InvalidDeed_init : Value} {od_InvalidDeed_init an_InvalidDeed_init : Option Addr} {sl_InvalidDeed_init : Array (Option Value)}
    {oc_law_indexes kV_law_indexes dc_law_indexes pm_law_indexes cd_law_indexes ct_law_indexes : Value} {od_law_indexes an_law_indexes : Option Addr} {sl_law_indexes : Array (Option Value)}
    {oc_law_right kV_law_right dc_law_right pm_law_right cd_law_right ct_law_right : Value} {od_law_right an_law_right : Option Addr} {sl_law_right : Array (Option Value)}
    {oc_law_bag kV_law_bag dc_law_bag pm_law_bag cd_law_bag ct_law_bag : Value} {od_law_bag an_law_bag : Option Addr} {sl_law_bag : Array (Option Value)}
    {oc_law kV_law dc_law pm_law cd_law ct_law : Value} {od_law an_law : Option Addr} {sl_law : Array (Option Value)}
    {ccd_ShapeError : ClassData}
    {ccd_InvalidStep : ClassData}
    {xnm_InvalidStep xq_InvalidStep : Str} {xN_InvalidStep : Addr} {xbs_InvalidStep xbm_InvalidStep : List Value} {xsn_InvalidStep : List Str} {xsub_InvalidStep : List Value} {xab_InvalidStep : Bool} {xcol_InvalidStep : Option Bool} {xdd_InvalidStep : Option Addr} {xk0_InvalidStep xk1_InvalidStep xk2_InvalidStep xk3_InvalidStep xk5_InvalidStep : Option Value}
    {ccd_InvalidNumber : ClassData}
    {xnm_InvalidNumber xq_InvalidNumber : Str} {xN_InvalidNumber : Addr} {xbs_InvalidNumber xbm_InvalidNumber : List Value} {xsn_InvalidNumber : List Str} {xsub_InvalidNumber : List Value} {xab_InvalidNumber : Bool} {xcol_InvalidNumber : Option Bool} {xdd_InvalidNumber : Option Addr} {xk0_InvalidNumber xk1_InvalidNumber xk2_InvalidNumber xk3_InvalidNumber xk5_InvalidNumber : Option Value}
    {ccd_InvalidNumbers : ClassData}
    {xnm_InvalidNumbers xq_InvalidNumbers : Str} {xN_InvalidNumbers : Addr} {xbs_InvalidNumbers xbm_InvalidNumbers : List Value} {xsn_InvalidNumbers : List Str} {xsub_InvalidNumbers : List Value} {xab_InvalidNumbers : Bool} {xcol_InvalidNumbers : Option Bool} {xdd_InvalidNumbers : Option Addr} {xk0_InvalidNumbers xk1_InvalidNumbers xk2_InvalidNumbers xk3_InvalidNumbers xk5_InvalidNumbers : Option Value}
    {ccd_InvalidDigits : ClassData}
    {xnm_InvalidDigits xq_InvalidDigits : Str} {xN_InvalidDigits : Addr} {xbs_InvalidDigits xbm_InvalidDigits : List Value} {xsn_InvalidDigits : List Str} {xsub_InvalidDigits : List Value} {xab_InvalidDigits : Bool} {xcol_InvalidDigits : Option Bool} {xdd_InvalidDigits : Option Addr} {xk0_InvalidDigits xk1_InvalidDigits xk2_InvalidDigits xk3_InvalidDigits xk5_InvalidDigits : Option Value}
    {ccd_InvalidMoves : ClassData}
    {xnm_InvalidMoves xq_InvalidMoves : Str} {xN_InvalidMoves : Addr} {xbs_InvalidMoves xbm_InvalidMoves : List Value} {xsn_InvalidMoves : List Str} {xsub_InvalidMoves : List Value} {xab_InvalidMoves : Bool} {xcol_InvalidMoves : Option Bool} {xdd_InvalidMoves : Option Addr} {xk0_InvalidMoves xk1_InvalidMoves xk2_InvalidMoves xk3_InvalidMoves xk5_InvalidMoves : Option Value}
    {ccd_InvalidSigns : ClassData}
    {xnm_InvalidSigns xq_InvalidSigns : Str} {xN_InvalidSigns : Addr} {xbs_InvalidSigns xbm_InvalidSigns : List Value} {xsn_InvalidSigns : List Str} {xsub_InvalidSigns : List Value} {xab_InvalidSigns : Bool} {xcol_InvalidSigns : Option Bool} {xdd_InvalidSigns : Option Addr} {xk0_InvalidSigns xk1_InvalidSigns xk2_InvalidSigns xk3_InvalidSigns xk5_InvalidSigns : Option Value}
    {ccd_InvalidRule : ClassData}
    {xnm_InvalidRule xq_InvalidRule : Str} {xN_InvalidRule : Addr} {xbs_InvalidRule xbm_InvalidRule : List Value} {xsn_InvalidRule : List Str} {xsub_InvalidRule : List Value} {xab_InvalidRule : Bool} {xcol_InvalidRule : Option Bool} {xdd_InvalidRule : Option Addr} {xk0_InvalidRule xk1_InvalidRule xk2_InvalidRule xk3_InvalidRule xk5_InvalidRule : Option Value}
    {ccd_InvalidName : ClassData}
    {xnm_InvalidName xq_InvalidName : Str} {xN_InvalidName : Addr} {xbs_InvalidName xbm_InvalidName : List Value} {xsn_InvalidName : List Str} {xsub_InvalidName : List Value} {xab_InvalidName : Bool} {xcol_InvalidName : Option Bool} {xdd_InvalidName : Option Addr} {xk0_InvalidName xk1_InvalidName xk2_InvalidName xk3_InvalidName xk5_InvalidName : Option Value}
    {ccd_InvalidWish : ClassData}
    {xnm_InvalidWish xq_InvalidWish : Str} {xN_InvalidWish : Addr} {xbs_InvalidWish xbm_InvalidWish : List Value} {xsn_InvalidWish : List Str} {xsub_InvalidWish : List Value} {xab_InvalidWish : Bool} {xcol_InvalidWish : Option Bool} {xdd_InvalidWish : Option Addr} {xk0_InvalidWish xk1_InvalidWish xk2_InvalidWish xk3_InvalidWish xk5_InvalidWish : Option Value}
    {ccd_InvalidText : ClassData}
    {xnm_InvalidText xq_InvalidText : Str} {xN_InvalidText : Addr} {xbs_InvalidText xbm_InvalidText : List Value} {xsn_InvalidText : List Str} {xsub_InvalidText : List Value} {xab_InvalidText : Bool} {xcol_InvalidText : Option Bool} {xdd_InvalidText : Option Addr} {xk0_InvalidText xk1_InvalidText xk2_InvalidText xk3_InvalidText xk5_InvalidText : Option Value}
    {ccd_InvalidRows : ClassData}
    {xnm_InvalidRows xq_InvalidRows : Str} {xN_InvalidRows : Addr} {xbs_InvalidRows xbm_InvalidRows : List Value} {xsn_InvalidRows : List Str} {xsub_InvalidRows : List Value} {xab_InvalidRows : Bool} {xcol_InvalidRows : Option Bool} {xdd_InvalidRows : Option Addr} {xk0_InvalidRows xk1_InvalidRows xk2_InvalidRows xk3_InvalidRows xk5_InvalidRows : Option Value}
    {ccd_InvalidSayings : ClassData}
    {xnm_InvalidSayings xq_InvalidSayings : Str} {xN_InvalidSayings : Addr} {xbs_InvalidSayings xbm_InvalidSayings : List Value} {xsn_InvalidSayings : List Str} {xsub_InvalidSayings : List Value} {xab_InvalidSayings : Bool} {xcol_InvalidSayings : Option Bool} {xdd_InvalidSayings : Option Addr} {xk0_InvalidSayings xk1_InvalidSayings xk2_InvalidSayings xk3_InvalidSayings xk5_InvalidSayings : Option Value}
    {ccd_InvalidGood : ClassData}
    {xnm_InvalidGood xq_InvalidGood : Str} {xN_InvalidGood : Addr} {xbs_InvalidGood xbm_InvalidGood : List Value} {xsn_InvalidGood : List Str} {xsub_InvalidGood : List Value} {xab_InvalidGood : Bool} {xcol_InvalidGood : Option Bool} {xdd_InvalidGood : Option Addr} {xk0_InvalidGood xk1_InvalidGood xk2_InvalidGood xk3_InvalidGood xk5_InvalidGood : Option Value}
    {ccd_InvalidGuards : ClassData}
    {xnm_InvalidGuards xq_InvalidGuards : Str} {xN_InvalidGuards : Addr} {xbs_InvalidGuards xbm_InvalidGuards : List Value} {xsn_InvalidGuards : List Str} {xsub_InvalidGuards : List Value} {xab_InvalidGuards : Bool} {xcol_InvalidGuards : Option Bool} {xdd_InvalidGuards : Option Addr} {xk0_InvalidGuards xk1_InvalidGuards xk2_InvalidGuards xk3_InvalidGuards xk5_InvalidGuards : Option Value}
    {ccd_InvalidDeed : ClassData}
    {xnm_InvalidDeed xq_InvalidDeed : Str} {xN_InvalidDeed : Addr} {xbs_InvalidDeed xbm_InvalidDeed : List Value} {xsn_InvalidDeed : List Str} {xsub_InvalidDeed : List Value} {xab_InvalidDeed : Bool} {xcol_InvalidDeed : Option Bool} {xdd_InvalidDeed : Option Addr} {xk0_InvalidDeed xk1_InvalidDeed xk2_InvalidDeed xk3_InvalidDeed xk5_InvalidDeed : Option Value}
    {ccd_InvalidLine : ClassData}
    {xnm_InvalidLine xq_InvalidLine : Str} {xN_InvalidLine : Addr} {xbs_InvalidLine xbm_InvalidLine : List Value} {xsn_InvalidLine : List Str} {xsub_InvalidLine : List Value} {xab_InvalidLine : Bool} {xcol_InvalidLine : Option Bool} {xdd_InvalidLine : Option Addr} {xk0_InvalidLine xk1_InvalidLine xk2_InvalidLine xk3_InvalidLine xk5_InvalidLine : Option Value}
    {ccd_NotASystem : ClassData}
    {xnm_NotASystem xq_NotASystem : Str} {xN_NotASystem : Addr} {xbs_NotASystem xbm_NotASystem : List Value} {xsn_NotASystem : List Str} {xsub_NotASystem : List Value} {xab_NotASystem : Bool} {xcol_NotASystem : Option Bool} {xdd_NotASystem : Option Addr} {xk0_NotASystem xk1_NotASystem xk2_NotASystem xk3_NotASystem xk5_NotASystem : Option Value}
    {ccd_NotARow : ClassData}
    {xnm_NotARow xq_NotARow : Str} {xN_NotARow : Addr} {xbs_NotARow xbm_NotARow : List Value} {xsn_NotARow : List Str} {xsub_NotARow : List Value} {xab_NotARow : Bool} {xcol_NotARow : Option Bool} {xdd_NotARow : Option Addr} {xk0_NotARow xk1_NotARow xk2_NotARow xk3_NotARow xk5_NotARow : Option Value}
    {ccd_NotAWish : ClassData}
    {xnm_NotAWish xq_NotAWish : Str} {xN_NotAWish : Addr} {xbs_NotAWish xbm_NotAWish : List Value} {xsn_NotAWish : List Str} {xsub_NotAWish : List Value} {xab_NotAWish : Bool} {xcol_NotAWish : Option Bool} {xdd_NotAWish : Option Addr} {xk0_NotAWish xk1_NotAWish xk2_NotAWish xk3_NotAWish xk5_NotAWish : Option Value}
    {ccd_NotABook : ClassData}
    {xnm_NotABook xq_NotABook : Str} {xN_NotABook : Addr} {xbs_NotABook xbm_NotABook : List Value} {xsn_NotABook : List Str} {xsub_NotABook : List Value} {xab_NotABook : Bool} {xcol_NotABook : Option Bool} {xdd_NotABook : Option Addr} {xk0_NotABook xk1_NotABook xk2_NotABook xk3_NotABook xk5_NotABook : Option Value}
    {ccd_NotAMachine : ClassData}
    {xnm_NotAMachine xq_NotAMachine : Str} {xN_NotAMachine : Addr} {xbs_NotAMachine xbm_NotAMachine : List Value} {xsn_NotAMachine : List Str} {xsub_NotAMachine : List Value} {xab_NotAMachine : Bool} {xcol_NotAMachine : Option Bool} {xdd_NotAMachine : Option Addr} {xk0_NotAMachine xk1_NotAMachine xk2_NotAMachine xk3_NotAMachine xk5_NotAMachine : Option Value}
    {ccd_QuestionError : ClassData}
    {ccd_OtherSystem : ClassData}
    {xnm_OtherSystem xq_OtherSystem : Str} {xN_OtherSystem : Addr} {xbs_OtherSystem xbm_OtherSystem : List Value} {xsn_OtherSystem : List Str} {xsub_OtherSystem : List Value} {xab_OtherSystem : Bool} {xcol_OtherSystem : Option Bool} {xdd_OtherSystem : Option Addr} {xk0_OtherSystem xk1_OtherSystem xk2_OtherSystem xk3_OtherSystem xk5_OtherSystem : Option Value}
    {ccd_OtherNames : ClassData}
    {xnm_OtherNames xq_OtherNames : Str} {xN_OtherNames : Addr} {xbs_OtherNames xbm_OtherNames : List Value} {xsn_OtherNames : List Str} {xsub_OtherNames : List Value} {xab_OtherNames : Bool} {xcol_OtherNames : Option Bool} {xdd_OtherNames : Option Addr} {xk0_OtherNames xk1_OtherNames xk2_OtherNames xk3_OtherNames xk5_OtherNames : Option Value}
    {ccd_UnknownRow : ClassData}
    {xnm_UnknownRow xq_UnknownRow : Str} {xN_UnknownRow : Addr} {xbs_UnknownRow xbm_UnknownRow : List Value} {xsn_UnknownRow : List Str} {xsub_UnknownRow : List Value} {xab_UnknownRow : Bool} {xcol_UnknownRow : Option Bool} {xdd_UnknownRow : Option Addr} {xk0_UnknownRow xk1_UnknownRow xk2_UnknownRow xk3_UnknownRow xk5_UnknownRow : Option Value}
    {ccd_UnknownSaying : ClassData}
    {xnm_UnknownSaying xq_UnknownSaying : Str} {xN_UnknownSaying : Addr} {xbs_UnknownSaying xbm_UnknownSaying : List Value} {xsn_UnknownSaying : List Str} {xsub_UnknownSaying : List Value} {xab_UnknownSaying : Bool} {xcol_UnknownSaying : Option Bool} {xdd_UnknownSaying : Option Addr} {xk0_UnknownSaying xk1_UnknownSaying xk2_UnknownSaying xk3_UnknownSaying xk5_UnknownSaying : Option Value}
    {ccd_Never : ClassData}
    {ccd_Endless : ClassData}
    {ccd_TooFew : ClassData}
    {xnm_TooFew xq_TooFew : Str} {xN_TooFew : Addr} {xbs_TooFew xbm_TooFew : List Value} {xsn_TooFew : List Str} {xsub_TooFew : List Value} {xab_TooFew : Bool} {xcol_TooFew : Option Bool} {xdd_TooFew : Option Addr} {xk0_TooFew xk1_TooFew xk2_TooFew xk3_TooFew xk5_TooFew : Option Value}
    {ccd_Busy : ClassData}
    {ccd_NothingToUndo : ClassData}
    {ccd_Refused : ClassData}
    {xnm_Refused xq_Refused : Str} {xN_Refused : Addr} {xbs_Refused xbm_Refused : List Value} {xsn_Refused : List Str} {xsub_Refused : List Value} {xab_Refused : Bool} {xcol_Refused : Option Bool} {xdd_Refused : Option Addr} {xk0_Refused xk1_Refused xk2_Refused xk3_Refused xk5_Refused : Option Value}
    {ccd_SizeError : ClassData}
    {ccd_TooMany : ClassData}
    {xnm_TooMany xq_TooMany : Str} {xN_TooMany : Addr} {xbs_TooMany xbm_TooMany : List Value} {xsn_TooMany : List Str} {xsub_TooMany : List Value} {xab_TooMany : Bool} {xcol_TooMany : Option Bool} {xdd_TooMany : Option Addr} {xk0_TooMany xk1_TooMany xk2_TooMany xk3_TooMany xk5_TooMany : Option Value}
    {t_MOST_CONSTANT : Tok}
    {t_MOST_DEEDS : Tok}
    {t_MOST_DEPTH : Tok}
    {t_MOST_LENGTH : Tok}
    {t_MOST_MACHINE : Tok}
    {t_MOST_NAMES : Tok}
    {t_MOST_NUMBER : Tok}
    {t_MOST_PARTS : Tok}
    {t_MOST_ROWS : Tok}
    {t_MOST_SAYINGS : Tok}
    {t_MOST_STANDS : Tok}
    {t_MOST_STEP : Tok}
    {t_MOST_TERM : Tok}
    {t_MOST_WISHES : Tok} (X : K.In h) (G : h.Ns mainGlobals mg) (hfa : mg "law" = some (.ref fa))
    (g_ShapeError : PySem.W.nsIn K mainGlobals "ShapeError" = some (some (.ref c_ShapeError)))
    (g_InvalidStep : PySem.W.nsIn K mainGlobals "InvalidStep" = some (some (.ref c_InvalidStep)))
    (g_InvalidNumber : PySem.W.nsIn K mainGlobals "InvalidNumber" = some (some (.ref c_InvalidNumber)))
    (g_InvalidNumbers : PySem.W.nsIn K mainGlobals "InvalidNumbers" = some (some (.ref c_InvalidNumbers)))
    (g_InvalidDigits : PySem.W.nsIn K mainGlobals "InvalidDigits" = some (some (.ref c_InvalidDigits)))
    (g_InvalidMoves : PySem.W.nsIn K mainGlobals "InvalidMoves" = some (some (.ref c_InvalidMoves)))
    (g_InvalidSigns : PySem.W.nsIn K mainGlobals "InvalidSigns" = some (some (.ref c_InvalidSigns)))
    (g_InvalidRule : PySem.W.nsIn K mainGlobals "InvalidRule" = some (some (.ref c_InvalidRule)))
    (g_InvalidName : PySem.W.nsIn K mainGlobals "InvalidName" = some (some (.ref c_InvalidName)))
    (g_InvalidWish : PySem.W.nsIn K mainGlobals "InvalidWish" = some (some (.ref c_InvalidWish)))
    (g_InvalidText : PySem.W.nsIn K mainGlobals "InvalidText" = some (some (.ref c_InvalidText)))
    (g_InvalidRows : PySem.W.nsIn K mainGlobals "InvalidRows" = some (some (.ref c_InvalidRows)))
    (g_InvalidSayings : PySem.W.nsIn K mainGlobals "InvalidSayings" = some (some (.ref c_InvalidSayings)))
    (g_InvalidGood : PySem.W.nsIn K mainGlobals "InvalidGood" = some (some (.ref c_InvalidGood)))
    (g_InvalidGuards : PySem.W.nsIn K mainGlobals "InvalidGuards" = some (some (.ref c_InvalidGuards)))
    (g_InvalidDeed : PySem.W.nsIn K mainGlobals "InvalidDeed" = some (some (.ref c_InvalidDeed)))
    (g_InvalidLine : PySem.W.nsIn K mainGlobals "InvalidLine" = some (some (.ref c_InvalidLine)))
    (g_NotASystem : PySem.W.nsIn K mainGlobals "NotASystem" = some (some (.ref c_NotASystem)))
    (g_NotARow : PySem.W.nsIn K mainGlobals "NotARow" = some (some (.ref c_NotARow)))
    (g_NotAWish : PySem.W.nsIn K mainGlobals "NotAWish" = some (some (.ref c_NotAWish)))
    (g_NotABook : PySem.W.nsIn K mainGlobals "NotABook" = some (some (.ref c_NotABook)))
    (g_NotAMachine : PySem.W.nsIn K mainGlobals "NotAMachine" = some (some (.ref c_NotAMachine)))
    (g_QuestionError : PySem.W.nsIn K mainGlobals "QuestionError" = some (some (.ref c_QuestionError)))
    (g_OtherSystem : PySem.W.nsIn K mainGlobals "OtherSystem" = some (some (.ref c_OtherSystem)))
    (g_OtherNames : PySem.W.nsIn K mainGlobals "OtherNames" = some (some (.ref c_OtherNames)))
    (g_UnknownRow : PySem.W.nsIn K mainGlobals "UnknownRow" = some (some (.ref c_UnknownRow)))
    (g_UnknownSaying : PySem.W.nsIn K mainGlobals "UnknownSaying" = some (some (.ref c_UnknownSaying)))
    (g_Never : PySem.W.nsIn K mainGlobals "Never" = some (some (.ref c_Never)))
    (g_Endless : PySem.W.nsIn K mainGlobals "Endless" = some (some (.ref c_Endless)))
    (g_TooFew : PySem.W.nsIn K mainGlobals "TooFew" = some (some (.ref c_TooFew)))
    (g_Busy : PySem.W.nsIn K mainGlobals "Busy" = some (some (.ref c_Busy)))
    (g_NothingToUndo : PySem.W.nsIn K mainGlobals "NothingToUndo" = some (some (.ref c_NothingToUndo)))
    (g_Refused : PySem.W.nsIn K mainGlobals "Refused" = some (some (.ref c_Refused)))
    (g_SizeError : PySem.W.nsIn K mainGlobals "SizeError" = some (some (.ref c_SizeError)))
    (g_TooMany : PySem.W.nsIn K mainGlobals "TooMany" = some (some (.ref c_TooMany)))
    (a_Refused_init : PySem.W.findIn K (.ref c_Refused) "__init__" = some (some (.ref f_Refused_init)))
    (l_Refused_init : K.lookup f_Refused_init = some ⟨oc_Refused_init, od_Refused_init, .func (PySem.W.fnOf "__init__" "Refused.__init__" (defArgs s_Refused_init) (defBody s_Refused_init) (defScope s_Refused_init) .none kV_Refused_init dc_Refused_init pm_Refused_init an_Refused_init cd_Refused_init ct_Refused_init), sl_Refused_init⟩)
    (c_Refused_init : PySem.W.codeIn K cd_Refused_init "Refused.__init__" = true)
    (k_Refused_init : PySem.W.keepIn K (.ref f_Refused_init) = true)
    (i_Refused_init : PySem.W.typeIn K (.ref f_Refused_init) = some (.type "function"))
    (a_OtherSystem_init : PySem.W.findIn K (.ref c_OtherSystem) "__init__" = some (some (.ref f_OtherSystem_init)))
    (l_OtherSystem_init : K.lookup f_OtherSystem_init = some ⟨oc_OtherSystem_init, od_OtherSystem_init, .func (PySem.W.fnOf "__init__" "OtherSystem.__init__" (defArgs s_OtherSystem_init) (defBody s_OtherSystem_init) (defScope s_OtherSystem_init) .none kV_OtherSystem_init dc_OtherSystem_init pm_OtherSystem_init an_OtherSystem_init cd_OtherSystem_init ct_OtherSystem_init), sl_OtherSystem_init⟩)
    (c_OtherSystem_init : PySem.W.codeIn K cd_OtherSystem_init "OtherSystem.__init__" = true)
    (k_OtherSystem_init : PySem.W.keepIn K (.ref f_OtherSystem_init) = true)
    (i_OtherSystem_init : PySem.W.typeIn K (.ref f_OtherSystem_init) = some (.type "function"))
    (a_OtherNames_init : PySem.W.findIn K (.ref c_OtherNames) "__init__" = some (some (.ref f_OtherNames_init)))
    (l_OtherNames_init : K.lookup f_OtherNames_init = some ⟨oc_OtherNames_init, od_OtherNames_init, .func (PySem.W.fnOf "__init__" "OtherNames.__init__" (defArgs s_OtherNames_init) (defBody s_OtherNames_init) (defScope s_OtherNames_init) .none kV_OtherNames_init dc_OtherNames_init pm_OtherNames_init an_OtherNames_init cd_OtherNames_init ct_OtherNames_init), sl_OtherNames_init⟩)
    (c_OtherNames_init : PySem.W.codeIn K cd_OtherNames_init "OtherNames.__init__" = true)
    (k_OtherNames_init : PySem.W.keepIn K (.ref f_OtherNames_init) = true)
    (i_OtherNames_init : PySem.W.typeIn K (.ref f_OtherNames_init) = some (.type "function"))
    (a_TooFew_init : PySem.W.findIn K (.ref c_TooFew) "__init__" = some (some (.ref f_TooFew_init)))
    (l_TooFew_init : K.lookup f_TooFew_init = some ⟨oc_TooFew_init, od_TooFew_init, .func (PySem.W.fnOf "__init__" "TooFew.__init__" (defArgs s_TooFew_init) (defBody s_TooFew_init) (defScope s_TooFew_init) .none kV_TooFew_init dc_TooFew_init pm_TooFew_init an_TooFew_init cd_TooFew_init ct_TooFew_init), sl_TooFew_init⟩)
    (c_TooFew_init : PySem.W.codeIn K cd_TooFew_init "TooFew.__init__" = true)
    (k_TooFew_init : PySem.W.keepIn K (.ref f_TooFew_init) = true)
    (i_TooFew_init : PySem.W.typeIn K (.ref f_TooFew_init) = some (.type "function"))
    (a_TooMany_init : PySem.W.findIn K (.ref c_TooMany) "__init__" = some (some (.ref f_TooMany_init)))
    (l_TooMany_init : K.lookup f_TooMany_init = some ⟨oc_TooMany_init, od_TooMany_init, .func (PySem.W.fnOf "__init__" "TooMany.__init__" (defArgs s_TooMany_init) (defBody s_TooMany_init) (defScope s_TooMany_init) .none kV_TooMany_init dc_TooMany_init pm_TooMany_init an_TooMany_init cd_TooMany_init ct_TooMany_init), sl_TooMany_init⟩)
    (c_TooMany_init : PySem.W.codeIn K cd_TooMany_init "TooMany.__init__" = true)
    (k_TooMany_init : PySem.W.keepIn K (.ref f_TooMany_init) = true)
    (i_TooMany_init : PySem.W.typeIn K (.ref f_TooMany_init) = some (.type "function"))
    (a_law_classes : PySem.W.nsIn K mainGlobals "_law_classes" = some (some (.ref f_law_classes)))
    (l_law_classes : K.lookup f_law_classes = some ⟨oc_law_classes, od_law_classes, .func (PySem.W.fnOf "_law_classes" "_law_classes" (defArgs s_law_classes) (defBody s_law_classes) (defScope s_law_classes) .none kV_law_classes dc_law_classes pm_law_classes an_law_classes cd_law_classes ct_law_classes), sl_law_classes⟩)
    (c_law_classes : PySem.W.codeIn K cd_law_classes "_law_classes" = true)
    (k_law_classes : PySem.W.keepIn K (.ref f_law_classes) = true)
    (a_law_is : PySem.W.nsIn K mainGlobals "_law_is" = some (some (.ref f_law_is)))
    (l_law_is : K.lookup f_law_is = some ⟨oc_law_is, od_law_is, .func (PySem.W.fnOf "_law_is" "_law_is" (defArgs s_law_is) (defBody s_law_is) (defScope s_law_is) .none kV_law_is dc_law_is pm_law_is an_law_is cd_law_is ct_law_is), sl_law_is⟩)
    (c_law_is : PySem.W.codeIn K cd_law_is "_law_is" = true)
    (k_law_is : PySem.W.keepIn K (.ref f_law_is) = true)
    (a_law_others_right : PySem.W.nsIn K mainGlobals "_law_others_right" = some (some (.ref f_law_others_right)))
    (l_law_others_right : K.lookup f_law_others_right = some ⟨oc_law_others_right, od_law_others_right, .func (PySem.W.fnOf "_law_others_right" "_law_others_right" (defArgs s_law_others_right) (defBody s_law_others_right) (defScope s_law_others_right) .none kV_law_others_right dc_law_others_right pm_law_others_right an_law_others_right cd_law_others_right ct_law_others_right), sl_law_others_right⟩)
    (c_law_others_right : PySem.W.codeIn K cd_law_others_right "_law_others_right" = true)
    (k_law_others_right : PySem.W.keepIn K (.ref f_law_others_right) = true)
    (a_law_draw : PySem.W.nsIn K mainGlobals "_law_draw" = some (some (.ref f_law_draw)))
    (l_law_draw : K.lookup f_law_draw = some ⟨oc_law_draw, od_law_draw, .func (PySem.W.fnOf "_law_draw" "_law_draw" (defArgs s_law_draw) (defBody s_law_draw) (defScope s_law_draw) .none kV_law_draw dc_law_draw pm_law_draw an_law_draw cd_law_draw ct_law_draw), sl_law_draw⟩)
    (c_law_draw : PySem.W.codeIn K cd_law_draw "_law_draw" = true)
    (k_law_draw : PySem.W.keepIn K (.ref f_law_draw) = true)
    (a_law_one : PySem.W.nsIn K mainGlobals "_law_one" = some (some (.ref f_law_one)))
    (l_law_one : K.lookup f_law_one = some ⟨oc_law_one, od_law_one, .func (PySem.W.fnOf "_law_one" "_law_one" (defArgs s_law_one) (defBody s_law_one) (defScope s_law_one) .none kV_law_one dc_law_one pm_law_one an_law_one cd_law_one ct_law_one), sl_law_one⟩)
    (c_law_one : PySem.W.codeIn K cd_law_one "_law_one" = true)
    (k_law_one : PySem.W.keepIn K (.ref f_law_one) = true)
    (a_InvalidStep_init : PySem.W.findIn K (.ref c_InvalidStep) "__init__" = some (some (.ref f_InvalidStep_init)))
    (l_InvalidStep_init : K.lookup f_InvalidStep_init = some ⟨oc_InvalidStep_init, od_InvalidStep_init, .func (PySem.W.fnOf "__init__" "InvalidStep.__init__" (defArgs s_InvalidStep_init) (defBody s_InvalidStep_init) (defScope s_InvalidStep_init) .none kV_InvalidStep_init dc_InvalidStep_init pm_InvalidStep_init an_InvalidStep_init cd_InvalidStep_init ct_InvalidStep_init), sl_InvalidStep_init⟩)
    (c_InvalidStep_init : PySem.W.codeIn K cd_InvalidStep_init "InvalidStep.__init__" = true)
    (k_InvalidStep_init : PySem.W.keepIn K (.ref f_InvalidStep_init) = true)
    (i_InvalidStep_init : PySem.W.typeIn K (.ref f_InvalidStep_init) = some (.type "function"))
    (a_InvalidNumber_init : PySem.W.findIn K (.ref c_InvalidNumber) "__init__" = some (some (.ref f_InvalidNumber_init)))
    (l_InvalidNumber_init : K.lookup f_InvalidNumber_init = some ⟨oc_InvalidNumber_init, od_InvalidNumber_init, .func (PySem.W.fnOf "__init__" "InvalidNumber.__init__" (defArgs s_InvalidNumber_init) (defBody s_InvalidNumber_init) (defScope s_InvalidNumber_init) .none kV_InvalidNumber_init dc_InvalidNumber_init pm_InvalidNumber_init an_InvalidNumber_init cd_InvalidNumber_init ct_InvalidNumber_init), sl_InvalidNumber_init⟩)
    (c_InvalidNumber_init : PySem.W.codeIn K cd_InvalidNumber_init "InvalidNumber.__init__" = true)
    (k_InvalidNumber_init : PySem.W.keepIn K (.ref f_InvalidNumber_init) = true)
    (i_InvalidNumber_init : PySem.W.typeIn K (.ref f_InvalidNumber_init) = some (.type "function"))
    (a_InvalidNumbers_init : PySem.W.findIn K (.ref c_InvalidNumbers) "__init__" = some (some (.ref f_InvalidNumbers_init)))
    (l_InvalidNumbers_init : K.lookup f_InvalidNumbers_init = some ⟨oc_InvalidNumbers_init, od_InvalidNumbers_init, .func (PySem.W.fnOf "__init__" "InvalidNumbers.__init__" (defArgs s_InvalidNumbers_init) (defBody s_InvalidNumbers_init) (defScope s_InvalidNumbers_init) .none kV_InvalidNumbers_init dc_InvalidNumbers_init pm_InvalidNumbers_init an_InvalidNumbers_init cd_InvalidNumbers_init ct_InvalidNumbers_init), sl_InvalidNumbers_init⟩)
    (c_InvalidNumbers_init : PySem.W.codeIn K cd_InvalidNumbers_init "InvalidNumbers.__init__" = true)
    (k_InvalidNumbers_init : PySem.W.keepIn K (.ref f_InvalidNumbers_init) = true)
    (i_InvalidNumbers_init : PySem.W.typeIn K (.ref f_InvalidNumbers_init) = some (.type "function"))
    (a_InvalidDigits_init : PySem.W.findIn K (.ref c_InvalidDigits) "__init__" = some (some (.ref f_InvalidDigits_init)))
    (l_InvalidDigits_init : K.lookup f_InvalidDigits_init = some ⟨oc_InvalidDigits_init, od_InvalidDigits_init, .func (PySem.W.fnOf "__init__" "InvalidDigits.__init__" (defArgs s_InvalidDigits_init) (defBody s_InvalidDigits_init) (defScope s_InvalidDigits_init) .none kV_InvalidDigits_init dc_InvalidDigits_init pm_InvalidDigits_init an_InvalidDigits_init cd_InvalidDigits_init ct_InvalidDigits_init), sl_InvalidDigits_init⟩)
    (c_InvalidDigits_init : PySem.W.codeIn K cd_InvalidDigits_init "InvalidDigits.__init__" = true)
    (k_InvalidDigits_init : PySem.W.keepIn K (.ref f_InvalidDigits_init) = true)
    (i_InvalidDigits_init : PySem.W.typeIn K (.ref f_InvalidDigits_init) = some (.type "function"))
    (a_InvalidMoves_init : PySem.W.findIn K (.ref c_InvalidMoves) "__init__" = some (some (.ref f_InvalidMoves_init)))
    (l_InvalidMoves_init : K.lookup f_InvalidMoves_init = some ⟨oc_InvalidMoves_init, od_InvalidMoves_init, .func (PySem.W.fnOf "__init__" "InvalidMoves.__init__" (defArgs s_InvalidMoves_init) (defBody s_InvalidMoves_init) (defScope s_InvalidMoves_init) .none kV_InvalidMoves_init dc_InvalidMoves_init pm_InvalidMoves_init an_InvalidMoves_init cd_InvalidMoves_init ct_InvalidMoves_init), sl_InvalidMoves_init⟩)
    (c_InvalidMoves_init : PySem.W.codeIn K cd_InvalidMoves_init "InvalidMoves.__init__" = true)
    (k_InvalidMoves_init : PySem.W.keepIn K (.ref f_InvalidMoves_init) = true)
    (i_InvalidMoves_init : PySem.W.typeIn K (.ref f_InvalidMoves_init) = some (.type "function"))
    (a_InvalidSigns_init : PySem.W.findIn K (.ref c_InvalidSigns) "__init__" = some (some (.ref f_InvalidSigns_init)))
    (l_InvalidSigns_init : K.lookup f_InvalidSigns_init = some ⟨oc_InvalidSigns_init, od_InvalidSigns_init, .func (PySem.W.fnOf "__init__" "InvalidSigns.__init__" (defArgs s_InvalidSigns_init) (defBody s_InvalidSigns_init) (defScope s_InvalidSigns_init) .none kV_InvalidSigns_init dc_InvalidSigns_init pm_InvalidSigns_init an_InvalidSigns_init cd_InvalidSigns_init ct_InvalidSigns_init), sl_InvalidSigns_init⟩)
    (c_InvalidSigns_init : PySem.W.codeIn K cd_InvalidSigns_init "InvalidSigns.__init__" = true)
    (k_InvalidSigns_init : PySem.W.keepIn K (.ref f_InvalidSigns_init) = true)
    (i_InvalidSigns_init : PySem.W.typeIn K (.ref f_InvalidSigns_init) = some (.type "function"))
    (a_InvalidName_init : PySem.W.findIn K (.ref c_InvalidName) "__init__" = some (some (.ref f_InvalidName_init)))
    (l_InvalidName_init : K.lookup f_InvalidName_init = some ⟨oc_InvalidName_init, od_InvalidName_init, .func (PySem.W.fnOf "__init__" "InvalidName.__init__" (defArgs s_InvalidName_init) (defBody s_InvalidName_init) (defScope s_InvalidName_init) .none kV_InvalidName_init dc_InvalidName_init pm_InvalidName_init an_InvalidName_init cd_InvalidName_init ct_InvalidName_init), sl_InvalidName_init⟩)
    (c_InvalidName_init : PySem.W.codeIn K cd_InvalidName_init "InvalidName.__init__" = true)
    (k_InvalidName_init : PySem.W.keepIn K (.ref f_InvalidName_init) = true)
    (i_InvalidName_init : PySem.W.typeIn K (.ref f_InvalidName_init) = some (.type "function"))
    (a_InvalidWish_init : PySem.W.findIn K (.ref c_InvalidWish) "__init__" = some (some (.ref f_InvalidWish_init)))
    (l_InvalidWish_init : K.lookup f_InvalidWish_init = some ⟨oc_InvalidWish_init, od_InvalidWish_init, .func (PySem.W.fnOf "__init__" "InvalidWish.__init__" (defArgs s_InvalidWish_init) (defBody s_InvalidWish_init) (defScope s_InvalidWish_init) .none kV_InvalidWish_init dc_InvalidWish_init pm_InvalidWish_init an_InvalidWish_init cd_InvalidWish_init ct_InvalidWish_init), sl_InvalidWish_init⟩)
    (c_InvalidWish_init : PySem.W.codeIn K cd_InvalidWish_init "InvalidWish.__init__" = true)
    (k_InvalidWish_init : PySem.W.keepIn K (.ref f_InvalidWish_init) = true)
    (i_InvalidWish_init : PySem.W.typeIn K (.ref f_InvalidWish_init) = some (.type "function"))
    (a_InvalidText_init : PySem.W.findIn K (.ref c_InvalidText) "__init__" = some (some (.ref f_InvalidText_init)))
    (l_InvalidText_init : K.lookup f_InvalidText_init = some ⟨oc_InvalidText_init, od_InvalidText_init, .func (PySem.W.fnOf "__init__" "InvalidText.__init__" (defArgs s_InvalidText_init) (defBody s_InvalidText_init) (defScope s_InvalidText_init) .none kV_InvalidText_init dc_InvalidText_init pm_InvalidText_init an_InvalidText_init cd_InvalidText_init ct_InvalidText_init), sl_InvalidText_init⟩)
    (c_InvalidText_init : PySem.W.codeIn K cd_InvalidText_init "InvalidText.__init__" = true)
    (k_InvalidText_init : PySem.W.keepIn K (.ref f_InvalidText_init) = true)
    (i_InvalidText_init : PySem.W.typeIn K (.ref f_InvalidText_init) = some (.type "function"))
    (a_InvalidGood_init : PySem.W.findIn K (.ref c_InvalidGood) "__init__" = some (some (.ref f_InvalidGood_init)))
    (l_InvalidGood_init : K.lookup f_InvalidGood_init = some ⟨oc_InvalidGood_init, od_InvalidGood_init, .func (PySem.W.fnOf "__init__" "InvalidGood.__init__" (defArgs s_InvalidGood_init) (defBody s_InvalidGood_init) (defScope s_InvalidGood_init) .none kV_InvalidGood_init dc_InvalidGood_init pm_InvalidGood_init an_InvalidGood_init cd_InvalidGood_init ct_InvalidGood_init), sl_InvalidGood_init⟩)
    (c_InvalidGood_init : PySem.W.codeIn K cd_InvalidGood_init "InvalidGood.__init__" = true)
    (k_InvalidGood_init : PySem.W.keepIn K (.ref f_InvalidGood_init) = true)
    (i_InvalidGood_init : PySem.W.typeIn K (.ref f_InvalidGood_init) = some (.type "function"))
    (a_InvalidLine_init : PySem.W.findIn K (.ref c_InvalidLine) "__init__" = some (some (.ref f_InvalidLine_init)))
    (l_InvalidLine_init : K.lookup f_InvalidLine_init = some ⟨oc_InvalidLine_init, od_InvalidLine_init, .func (PySem.W.fnOf "__init__" "InvalidLine.__init__" (defArgs s_InvalidLine_init) (defBody s_InvalidLine_init) (defScope s_InvalidLine_init) .none kV_InvalidLine_init dc_InvalidLine_init pm_InvalidLine_init an_InvalidLine_init cd_InvalidLine_init ct_InvalidLine_init), sl_InvalidLine_init⟩)
    (c_InvalidLine_init : PySem.W.codeIn K cd_InvalidLine_init "InvalidLine.__init__" = true)
    (k_InvalidLine_init : PySem.W.keepIn K (.ref f_InvalidLine_init) = true)
    (i_InvalidLine_init : PySem.W.typeIn K (.ref f_InvalidLine_init) = some (.type "function"))
    (a_NotASystem_init : PySem.W.findIn K (.ref c_NotASystem) "__init__" = some (some (.ref f_NotASystem_init)))
    (l_NotASystem_init : K.lookup f_NotASystem_init = some ⟨oc_NotASystem_init, od_NotASystem_init, .func (PySem.W.fnOf "__init__" "NotASystem.__init__" (defArgs s_NotASystem_init) (defBody s_NotASystem_init) (defScope s_NotASystem_init) .none kV_NotASystem_init dc_NotASystem_init pm_NotASystem_init an_NotASystem_init cd_NotASystem_init ct_NotASystem_init), sl_NotASystem_init⟩)
    (c_NotASystem_init : PySem.W.codeIn K cd_NotASystem_init "NotASystem.__init__" = true)
    (k_NotASystem_init : PySem.W.keepIn K (.ref f_NotASystem_init) = true)
    (i_NotASystem_init : PySem.W.typeIn K (.ref f_NotASystem_init) = some (.type "function"))
    (a_NotARow_init : PySem.W.findIn K (.ref c_NotARow) "__init__" = some (some (.ref f_NotARow_init)))
    (l_NotARow_init : K.lookup f_NotARow_init = some ⟨oc_NotARow_init, od_NotARow_init, .func (PySem.W.fnOf "__init__" "NotARow.__init__" (defArgs s_NotARow_init) (defBody s_NotARow_init) (defScope s_NotARow_init) .none kV_NotARow_init dc_NotARow_init pm_NotARow_init an_NotARow_init cd_NotARow_init ct_NotARow_init), sl_NotARow_init⟩)
    (c_NotARow_init : PySem.W.codeIn K cd_NotARow_init "NotARow.__init__" = true)
    (k_NotARow_init : PySem.W.keepIn K (.ref f_NotARow_init) = true)
    (i_NotARow_init : PySem.W.typeIn K (.ref f_NotARow_init) = some (.type "function"))
    (a_NotAWish_init : PySem.W.findIn K (.ref c_NotAWish) "__init__" = some (some (.ref f_NotAWish_init)))
    (l_NotAWish_init : K.lookup f_NotAWish_init = some ⟨oc_NotAWish_init, od_NotAWish_init, .func (PySem.W.fnOf "__init__" "NotAWish.__init__" (defArgs s_NotAWish_init) (defBody s_NotAWish_init) (defScope s_NotAWish_init) .none kV_NotAWish_init dc_NotAWish_init pm_NotAWish_init an_NotAWish_init cd_NotAWish_init ct_NotAWish_init), sl_NotAWish_init⟩)
    (c_NotAWish_init : PySem.W.codeIn K cd_NotAWish_init "NotAWish.__init__" = true)
    (k_NotAWish_init : PySem.W.keepIn K (.ref f_NotAWish_init) = true)
    (i_NotAWish_init : PySem.W.typeIn K (.ref f_NotAWish_init) = some (.type "function"))
    (a_NotABook_init : PySem.W.findIn K (.ref c_NotABook) "__init__" = some (some (.ref f_NotABook_init)))
    (l_NotABook_init : K.lookup f_NotABook_init = some ⟨oc_NotABook_init, od_NotABook_init, .func (PySem.W.fnOf "__init__" "NotABook.__init__" (defArgs s_NotABook_init) (defBody s_NotABook_init) (defScope s_NotABook_init) .none kV_NotABook_init dc_NotABook_init pm_NotABook_init an_NotABook_init cd_NotABook_init ct_NotABook_init), sl_NotABook_init⟩)
    (c_NotABook_init : PySem.W.codeIn K cd_NotABook_init "NotABook.__init__" = true)
    (k_NotABook_init : PySem.W.keepIn K (.ref f_NotABook_init) = true)
    (i_NotABook_init : PySem.W.typeIn K (.ref f_NotABook_init) = some (.type "function"))
    (a_NotAMachine_init : PySem.W.findIn K (.ref c_NotAMachine) "__init__" = some (some (.ref f_NotAMachine_init)))
    (l_NotAMachine_init : K.lookup f_NotAMachine_init = some ⟨oc_NotAMachine_init, od_NotAMachine_init, .func (PySem.W.fnOf "__init__" "NotAMachine.__init__" (defArgs s_NotAMachine_init) (defBody s_NotAMachine_init) (defScope s_NotAMachine_init) .none kV_NotAMachine_init dc_NotAMachine_init pm_NotAMachine_init an_NotAMachine_init cd_NotAMachine_init ct_NotAMachine_init), sl_NotAMachine_init⟩)
    (c_NotAMachine_init : PySem.W.codeIn K cd_NotAMachine_init "NotAMachine.__init__" = true)
    (k_NotAMachine_init : PySem.W.keepIn K (.ref f_NotAMachine_init) = true)
    (i_NotAMachine_init : PySem.W.typeIn K (.ref f_NotAMachine_init) = some (.type "function"))
    (a_UnknownRow_init : PySem.W.findIn K (.ref c_UnknownRow) "__init__" = some (some (.ref f_UnknownRow_init)))
    (l_UnknownRow_init : K.lookup f_UnknownRow_init = some ⟨oc_UnknownRow_init, od_UnknownRow_init, .func (PySem.W.fnOf "__init__" "UnknownRow.__init__" (defArgs s_UnknownRow_init) (defBody s_UnknownRow_init) (defScope s_UnknownRow_init) .none kV_UnknownRow_init dc_UnknownRow_init pm_UnknownRow_init an_UnknownRow_init cd_UnknownRow_init ct_UnknownRow_init), sl_UnknownRow_init⟩)
    (c_UnknownRow_init : PySem.W.codeIn K cd_UnknownRow_init "UnknownRow.__init__" = true)
    (k_UnknownRow_init : PySem.W.keepIn K (.ref f_UnknownRow_init) = true)
    (i_UnknownRow_init : PySem.W.typeIn K (.ref f_UnknownRow_init) = some (.type "function"))
    (a_UnknownSaying_init : PySem.W.findIn K (.ref c_UnknownSaying) "__init__" = some (some (.ref f_UnknownSaying_init)))
    (l_UnknownSaying_init : K.lookup f_UnknownSaying_init = some ⟨oc_UnknownSaying_init, od_UnknownSaying_init, .func (PySem.W.fnOf "__init__" "UnknownSaying.__init__" (defArgs s_UnknownSaying_init) (defBody s_UnknownSaying_init) (defScope s_UnknownSaying_init) .none kV_UnknownSaying_init dc_UnknownSaying_init pm_UnknownSaying_init an_UnknownSaying_init cd_UnknownSaying_init ct_UnknownSaying_init), sl_UnknownSaying_init⟩)
    (c_UnknownSaying_init : PySem.W.codeIn K cd_UnknownSaying_init "UnknownSaying.__init__" = true)
    (k_UnknownSaying_init : PySem.W.keepIn K (.ref f_UnknownSaying_init) = true)
    (i_UnknownSaying_init : PySem.W.typeIn K (.ref f_UnknownSaying_init) = some (.type "function"))
    (a_law_values : PySem.W.nsIn K mainGlobals "_law_values" = some (some (.ref f_law_values)))
    (l_law_values : K.lookup f_law_values = some ⟨oc_law_values, od_law_values, .func (PySem.W.fnOf "_law_values" "_law_values" (defArgs s_law_values) (defBody s_law_values) (defScope s_law_values) .none kV_law_values dc_law_values pm_law_values an_law_values cd_law_values ct_law_values), sl_law_values⟩)
    (c_law_values : PySem.W.codeIn K cd_law_values "_law_values" = true)
    (k_law_values : PySem.W.keepIn K (.ref f_law_values) = true)
    (a_InvalidRule_init : PySem.W.findIn K (.ref c_InvalidRule) "__init__" = some (some (.ref f_InvalidRule_init)))
    (l_InvalidRule_init : K.lookup f_InvalidRule_init = some ⟨oc_InvalidRule_init, od_InvalidRule_init, .func (PySem.W.fnOf "__init__" "InvalidRule.__init__" (defArgs s_InvalidRule_init) (defBody s_InvalidRule_init) (defScope s_InvalidRule_init) .none kV_InvalidRule_init dc_InvalidRule_init pm_InvalidRule_init an_InvalidRule_init cd_InvalidRule_init ct_InvalidRule_init), sl_InvalidRule_init⟩)
    (c_InvalidRule_init : PySem.W.codeIn K cd_InvalidRule_init "InvalidRule.__init__" = true)
    (k_InvalidRule_init : PySem.W.keepIn K (.ref f_InvalidRule_init) = true)
    (i_InvalidRule_init : PySem.W.typeIn K (.ref f_InvalidRule_init) = some (.type "function"))
    (a_InvalidRows_init : PySem.W.findIn K (.ref c_InvalidRows) "__init__" = some (some (.ref f_InvalidRows_init)))
    (l_InvalidRows_init : K.lookup f_InvalidRows_init = some ⟨oc_InvalidRows_init, od_InvalidRows_init, .func (PySem.W.fnOf "__init__" "InvalidRows.__init__" (defArgs s_InvalidRows_init) (defBody s_InvalidRows_init) (defScope s_InvalidRows_init) .none kV_InvalidRows_init dc_InvalidRows_init pm_InvalidRows_init an_InvalidRows_init cd_InvalidRows_init ct_InvalidRows_init), sl_InvalidRows_init⟩)
    (c_InvalidRows_init : PySem.W.codeIn K cd_InvalidRows_init "InvalidRows.__init__" = true)
    (k_InvalidRows_init : PySem.W.keepIn K (.ref f_InvalidRows_init) = true)
    (i_InvalidRows_init : PySem.W.typeIn K (.ref f_InvalidRows_init) = some (.type "function"))
    (a_InvalidSayings_init : PySem.W.findIn K (.ref c_InvalidSayings) "__init__" = some (some (.ref f_InvalidSayings_init)))
    (l_InvalidSayings_init : K.lookup f_InvalidSayings_init = some ⟨oc_InvalidSayings_init, od_InvalidSayings_init, .func (PySem.W.fnOf "__init__" "InvalidSayings.__init__" (defArgs s_InvalidSayings_init) (defBody s_InvalidSayings_init) (defScope s_InvalidSayings_init) .none kV_InvalidSayings_init dc_InvalidSayings_init pm_InvalidSayings_init an_InvalidSayings_init cd_InvalidSayings_init ct_InvalidSayings_init), sl_InvalidSayings_init⟩)
    (c_InvalidSayings_init : PySem.W.codeIn K cd_InvalidSayings_init "InvalidSayings.__init__" = true)
    (k_InvalidSayings_init : PySem.W.keepIn K (.ref f_InvalidSayings_init) = true)
    (i_InvalidSayings_init : PySem.W.typeIn K (.ref f_InvalidSayings_init) = some (.type "function"))
    (a_InvalidGuards_init : PySem.W.findIn K (.ref c_InvalidGuards) "__init__" = some (some (.ref f_InvalidGuards_init)))
    (l_InvalidGuards_init : K.lookup f_InvalidGuards_init = some ⟨oc_InvalidGuards_init, od_InvalidGuards_init, .func (PySem.W.fnOf "__init__" "InvalidGuards.__init__" (defArgs s_InvalidGuards_init) (defBody s_InvalidGuards_init) (defScope s_InvalidGuards_init) .none kV_InvalidGuards_init dc_InvalidGuards_init pm_InvalidGuards_init an_InvalidGuards_init cd_InvalidGuards_init ct_InvalidGuards_init), sl_InvalidGuards_init⟩)
    (c_InvalidGuards_init : PySem.W.codeIn K cd_InvalidGuards_init "InvalidGuards.__init__" = true)
    (k_InvalidGuards_init : PySem.W.keepIn K (.ref f_InvalidGuards_init) = true)
    (i_InvalidGuards_init : PySem.W.typeIn K (.ref f_InvalidGuards_init) = some (.type "function"))
    (a_InvalidDeed_init : PySem.W.findIn K (.ref c_InvalidDeed) "__init__" = some (some (.ref f_InvalidDeed_init)))
    (l_InvalidDeed_init : K.lookup f_InvalidDeed_init = some ⟨oc_InvalidDeed_init, od_InvalidDeed_init, .func (PySem.W.fnOf "__init__" "InvalidDeed.__init__" (defArgs s_InvalidDeed_init) (defBody s_InvalidDeed_init) (defScope s_InvalidDeed_init) .none kV_InvalidDeed_init dc_InvalidDeed_init pm_InvalidDeed_init an_InvalidDeed_init cd_InvalidDeed_init ct_InvalidDeed_init), sl_InvalidDeed_init⟩)
    (c_InvalidDeed_init : PySem.W.codeIn K cd_InvalidDeed_init "InvalidDeed.__init__" = true)
    (k_InvalidDeed_init : PySem.W.keepIn K (.ref f_InvalidDeed_init) = true)
    (i_InvalidDeed_init : PySem.W.typeIn K (.ref f_InvalidDeed_init) = some (.type "function"))
    (a_law_indexes : PySem.W.nsIn K mainGlobals "_law_indexes" = some (some (.ref f_law_indexes)))
    (l_law_indexes : K.lookup f_law_indexes = some ⟨oc_law_indexes, od_law_indexes, .func (PySem.W.fnOf "_law_indexes" "_law_indexes" (defArgs s_law_indexes) (defBody s_law_indexes) (defScope s_law_indexes) .none kV_law_indexes dc_law_indexes pm_law_indexes an_law_indexes cd_law_indexes ct_law_indexes), sl_law_indexes⟩)
    (c_law_indexes : PySem.W.codeIn K cd_law_indexes "_law_indexes" = true)
    (k_law_indexes : PySem.W.keepIn K (.ref f_law_indexes) = true)
    (a_law_right : PySem.W.nsIn K mainGlobals "_law_right" = some (some (.ref f_law_right)))
    (l_law_right : K.lookup f_law_right = some ⟨oc_law_right, od_law_right, .func (PySem.W.fnOf "_law_right" "_law_right" (defArgs s_law_right) (defBody s_law_right) (defScope s_law_right) .none kV_law_right dc_law_right pm_law_right an_law_right cd_law_right ct_law_right), sl_law_right⟩)
    (c_law_right : PySem.W.codeIn K cd_law_right "_law_right" = true)
    (k_law_right : PySem.W.keepIn K (.ref f_law_right) = true)
    (a_law_bag : PySem.W.nsIn K mainGlobals "_law_bag" = some (some (.ref f_law_bag)))
    (l_law_bag : K.lookup f_law_bag = some ⟨oc_law_bag, od_law_bag, .func (PySem.W.fnOf "_law_bag" "_law_bag" (defArgs s_law_bag) (defBody s_law_bag) (defScope s_law_bag) .none kV_law_bag dc_law_bag pm_law_bag an_law_bag cd_law_bag ct_law_bag), sl_law_bag⟩)
    (c_law_bag : PySem.W.codeIn K cd_law_bag "_law_bag" = true)
    (k_law_bag : PySem.W.keepIn K (.ref f_law_bag) = true)
    (a_law : PySem.W.nsIn K mainGlobals "law" = some (some (.ref f_law)))
    (l_law : K.lookup f_law = some ⟨oc_law, od_law, .func (PySem.W.fnOf "law" "law" (defArgs s_law) (defBody s_law) (defScope s_law) .none kV_law dc_law pm_law an_law cd_law ct_law), sl_law⟩)
    (c_law : PySem.W.codeIn K cd_law "law" = true)
    (k_law : PySem.W.keepIn K (.ref f_law) = true)
    (ci_ShapeError : PySem.W.clsIn K c_ShapeError = some ccd_ShapeError)
    (cm_ShapeError : ccd_ShapeError.mro = mroL [c_ShapeError] ["ValueError", "Exception", "BaseException", "object"])
    (tp_ShapeError : PySem.W.typeIn K (.ref c_ShapeError) = some (.type "type"))
    (ha_ShapeError : PySem.W.findIn K (.ref c_ShapeError) "__class__" = some (some (.builtin "object.__class__")))
    (xa_ShapeError : PySem.W.findIn K (.ref c_ShapeError) "__getattribute__" = some (some (.builtin "BaseException.__getattribute__")))
    (xg_ShapeError : PySem.W.findIn K (.ref c_ShapeError) "__getattr__" = some none)
    (xs_ShapeError : PySem.W.subIn K (.ref c_ShapeError) (.type "BaseException") = some true)
    (xd_ShapeError : PySem.W.hasDictIn K c_ShapeError = true)
    (mo_ShapeError : PySem.W.mroIn K c_ShapeError (.type "object") = some true)
    (nf_ShapeError_deed : PySem.W.findIn K (.ref c_ShapeError) "deed" = some none)
    (nf_ShapeError_shown : PySem.W.findIn K (.ref c_ShapeError) "shown" = some none)
    (nf_ShapeError_given : PySem.W.findIn K (.ref c_ShapeError) "given" = some none)
    (nf_ShapeError_many : PySem.W.findIn K (.ref c_ShapeError) "many" = some none)
    (nf_ShapeError_limit : PySem.W.findIn K (.ref c_ShapeError) "limit" = some none)
    (nf_ShapeError_value : PySem.W.findIn K (.ref c_ShapeError) "value" = some none)
    (nf_ShapeError_index : PySem.W.findIn K (.ref c_ShapeError) "index" = some none)
    (ci_InvalidStep : PySem.W.clsIn K c_InvalidStep = some ccd_InvalidStep)
    (cm_InvalidStep : ccd_InvalidStep.mro = mroL [c_InvalidStep, c_ShapeError] ["ValueError", "Exception", "BaseException", "object"])
    (tp_InvalidStep : PySem.W.typeIn K (.ref c_InvalidStep) = some (.type "type"))
    (ha_InvalidStep : PySem.W.findIn K (.ref c_InvalidStep) "__class__" = some (some (.builtin "object.__class__")))
    (xa_InvalidStep : PySem.W.findIn K (.ref c_InvalidStep) "__getattribute__" = some (some (.builtin "BaseException.__getattribute__")))
    (xg_InvalidStep : PySem.W.findIn K (.ref c_InvalidStep) "__getattr__" = some none)
    (xs_InvalidStep : PySem.W.subIn K (.ref c_InvalidStep) (.type "BaseException") = some true)
    (xd_InvalidStep : PySem.W.hasDictIn K c_InvalidStep = true)
    (mo_InvalidStep : PySem.W.mroIn K c_InvalidStep (.type "object") = some true)
    (nf_InvalidStep_deed : PySem.W.findIn K (.ref c_InvalidStep) "deed" = some none)
    (nf_InvalidStep_shown : PySem.W.findIn K (.ref c_InvalidStep) "shown" = some none)
    (nf_InvalidStep_given : PySem.W.findIn K (.ref c_InvalidStep) "given" = some none)
    (nf_InvalidStep_many : PySem.W.findIn K (.ref c_InvalidStep) "many" = some none)
    (nf_InvalidStep_limit : PySem.W.findIn K (.ref c_InvalidStep) "limit" = some none)
    (nf_InvalidStep_value : PySem.W.findIn K (.ref c_InvalidStep) "value" = some none)
    (nf_InvalidStep_index : PySem.W.findIn K (.ref c_InvalidStep) "index" = some none)
    (ox_InvalidStep : K.lookup c_InvalidStep = some (excClassObj xnm_InvalidStep xq_InvalidStep c_InvalidStep xN_InvalidStep xbs_InvalidStep xbm_InvalidStep true xsn_InvalidStep xsub_InvalidStep xab_InvalidStep xcol_InvalidStep xdd_InvalidStep xk0_InvalidStep xk1_InvalidStep xk2_InvalidStep xk3_InvalidStep xk5_InvalidStep "ValueError.__new__"))
    (rv_InvalidStep : refsT [.type "ValueError", .type "Exception", .type "BaseException", .type "object"] xbm_InvalidStep = true)
    (sa_InvalidStep : PySem.W.findIn K (.ref c_InvalidStep) "__setattr__" = some (some (.builtin "object.__setattr__")))
    (sx_InvalidStep : PySem.W.subIn K (.ref c_InvalidStep) (.type "BaseException") = some true)
    (kc_InvalidStep : PySem.W.keepIn K (.ref c_InvalidStep) = true)
    (ci_InvalidNumber : PySem.W.clsIn K c_InvalidNumber = some ccd_InvalidNumber)
    (cm_InvalidNumber : ccd_InvalidNumber.mro = mroL [c_InvalidNumber, c_ShapeError] ["ValueError", "Exception", "BaseException", "object"])
    (tp_InvalidNumber : PySem.W.typeIn K (.ref c_InvalidNumber) = some (.type "type"))
    (ha_InvalidNumber : PySem.W.findIn K (.ref c_InvalidNumber) "__class__" = some (some (.builtin "object.__class__")))
    (xa_InvalidNumber : PySem.W.findIn K (.ref c_InvalidNumber) "__getattribute__" = some (some (.builtin "BaseException.__getattribute__")))
    (xg_InvalidNumber : PySem.W.findIn K (.ref c_InvalidNumber) "__getattr__" = some none)
    (xs_InvalidNumber : PySem.W.subIn K (.ref c_InvalidNumber) (.type "BaseException") = some true)
    (xd_InvalidNumber : PySem.W.hasDictIn K c_InvalidNumber = true)
    (mo_InvalidNumber : PySem.W.mroIn K c_InvalidNumber (.type "object") = some true)
    (nf_InvalidNumber_deed : PySem.W.findIn K (.ref c_InvalidNumber) "deed" = some none)
    (nf_InvalidNumber_shown : PySem.W.findIn K (.ref c_InvalidNumber) "shown" = some none)
    (nf_InvalidNumber_given : PySem.W.findIn K (.ref c_InvalidNumber) "given" = some none)
    (nf_InvalidNumber_many : PySem.W.findIn K (.ref c_InvalidNumber) "many" = some none)
    (nf_InvalidNumber_limit : PySem.W.findIn K (.ref c_InvalidNumber) "limit" = some none)
    (nf_InvalidNumber_value : PySem.W.findIn K (.ref c_InvalidNumber) "value" = some none)
    (nf_InvalidNumber_index : PySem.W.findIn K (.ref c_InvalidNumber) "index" = some none)
    (ox_InvalidNumber : K.lookup c_InvalidNumber = some (excClassObj xnm_InvalidNumber xq_InvalidNumber c_InvalidNumber xN_InvalidNumber xbs_InvalidNumber xbm_InvalidNumber true xsn_InvalidNumber xsub_InvalidNumber xab_InvalidNumber xcol_InvalidNumber xdd_InvalidNumber xk0_InvalidNumber xk1_InvalidNumber xk2_InvalidNumber xk3_InvalidNumber xk5_InvalidNumber "ValueError.__new__"))
    (rv_InvalidNumber : refsT [.type "ValueError", .type "Exception", .type "BaseException", .type "object"] xbm_InvalidNumber = true)
    (sa_InvalidNumber : PySem.W.findIn K (.ref c_InvalidNumber) "__setattr__" = some (some (.builtin "object.__setattr__")))
    (sx_InvalidNumber : PySem.W.subIn K (.ref c_InvalidNumber) (.type "BaseException") = some true)
    (kc_InvalidNumber : PySem.W.keepIn K (.ref c_InvalidNumber) = true)
    (ci_InvalidNumbers : PySem.W.clsIn K c_InvalidNumbers = some ccd_InvalidNumbers)
    (cm_InvalidNumbers : ccd_InvalidNumbers.mro = mroL [c_InvalidNumbers, c_ShapeError] ["ValueError", "Exception", "BaseException", "object"])
    (tp_InvalidNumbers : PySem.W.typeIn K (.ref c_InvalidNumbers) = some (.type "type"))
    (ha_InvalidNumbers : PySem.W.findIn K (.ref c_InvalidNumbers) "__class__" = some (some (.builtin "object.__class__")))
    (xa_InvalidNumbers : PySem.W.findIn K (.ref c_InvalidNumbers) "__getattribute__" = some (some (.builtin "BaseException.__getattribute__")))
    (xg_InvalidNumbers : PySem.W.findIn K (.ref c_InvalidNumbers) "__getattr__" = some none)
    (xs_InvalidNumbers : PySem.W.subIn K (.ref c_InvalidNumbers) (.type "BaseException") = some true)
    (xd_InvalidNumbers : PySem.W.hasDictIn K c_InvalidNumbers = true)
    (mo_InvalidNumbers : PySem.W.mroIn K c_InvalidNumbers (.type "object") = some true)
    (nf_InvalidNumbers_deed : PySem.W.findIn K (.ref c_InvalidNumbers) "deed" = some none)
    (nf_InvalidNumbers_shown : PySem.W.findIn K (.ref c_InvalidNumbers) "shown" = some none)
    (nf_InvalidNumbers_given : PySem.W.findIn K (.ref c_InvalidNumbers) "given" = some none)
    (nf_InvalidNumbers_many : PySem.W.findIn K (.ref c_InvalidNumbers) "many" = some none)
    (nf_InvalidNumbers_limit : PySem.W.findIn K (.ref c_InvalidNumbers) "limit" = some none)
    (nf_InvalidNumbers_value : PySem.W.findIn K (.ref c_InvalidNumbers) "value" = some none)
    (nf_InvalidNumbers_index : PySem.W.findIn K (.ref c_InvalidNumbers) "index" = some none)
    (ox_InvalidNumbers : K.lookup c_InvalidNumbers = some (excClassObj xnm_InvalidNumbers xq_InvalidNumbers c_InvalidNumbers xN_InvalidNumbers xbs_InvalidNumbers xbm_InvalidNumbers true xsn_InvalidNumbers xsub_InvalidNumbers xab_InvalidNumbers xcol_InvalidNumbers xdd_InvalidNumbers xk0_InvalidNumbers xk1_InvalidNumbers xk2_InvalidNumbers xk3_InvalidNumbers xk5_InvalidNumbers "ValueError.__new__"))
    (rv_InvalidNumbers : refsT [.type "ValueError", .type "Exception", .type "BaseException", .type "object"] xbm_InvalidNumbers = true)
    (sa_InvalidNumbers : PySem.W.findIn K (.ref c_InvalidNumbers) "__setattr__" = some (some (.builtin "object.__setattr__")))
    (sx_InvalidNumbers : PySem.W.subIn K (.ref c_InvalidNumbers) (.type "BaseException") = some true)
    (kc_InvalidNumbers : PySem.W.keepIn K (.ref c_InvalidNumbers) = true)
    (ci_InvalidDigits : PySem.W.clsIn K c_InvalidDigits = some ccd_InvalidDigits)
    (cm_InvalidDigits : ccd_InvalidDigits.mro = mroL [c_InvalidDigits, c_ShapeError] ["ValueError", "Exception", "BaseException", "object"])
    (tp_InvalidDigits : PySem.W.typeIn K (.ref c_InvalidDigits) = some (.type "type"))
    (ha_InvalidDigits : PySem.W.findIn K (.ref c_InvalidDigits) "__class__" = some (some (.builtin "object.__class__")))
    (xa_InvalidDigits : PySem.W.findIn K (.ref c_InvalidDigits) "__getattribute__" = some (some (.builtin "BaseException.__getattribute__")))
    (xg_InvalidDigits : PySem.W.findIn K (.ref c_InvalidDigits) "__getattr__" = some none)
    (xs_InvalidDigits : PySem.W.subIn K (.ref c_InvalidDigits) (.type "BaseException") = some true)
    (xd_InvalidDigits : PySem.W.hasDictIn K c_InvalidDigits = true)
    (mo_InvalidDigits : PySem.W.mroIn K c_InvalidDigits (.type "object") = some true)
    (nf_InvalidDigits_deed : PySem.W.findIn K (.ref c_InvalidDigits) "deed" = some none)
    (nf_InvalidDigits_shown : PySem.W.findIn K (.ref c_InvalidDigits) "shown" = some none)
    (nf_InvalidDigits_given : PySem.W.findIn K (.ref c_InvalidDigits) "given" = some none)
    (nf_InvalidDigits_many : PySem.W.findIn K (.ref c_InvalidDigits) "many" = some none)
    (nf_InvalidDigits_limit : PySem.W.findIn K (.ref c_InvalidDigits) "limit" = some none)
    (nf_InvalidDigits_value : PySem.W.findIn K (.ref c_InvalidDigits) "value" = some none)
    (nf_InvalidDigits_index : PySem.W.findIn K (.ref c_InvalidDigits) "index" = some none)
    (ox_InvalidDigits : K.lookup c_InvalidDigits = some (excClassObj xnm_InvalidDigits xq_InvalidDigits c_InvalidDigits xN_InvalidDigits xbs_InvalidDigits xbm_InvalidDigits true xsn_InvalidDigits xsub_InvalidDigits xab_InvalidDigits xcol_InvalidDigits xdd_InvalidDigits xk0_InvalidDigits xk1_InvalidDigits xk2_InvalidDigits xk3_InvalidDigits xk5_InvalidDigits "ValueError.__new__"))
    (rv_InvalidDigits : refsT [.type "ValueError", .type "Exception", .type "BaseException", .type "object"] xbm_InvalidDigits = true)
    (sa_InvalidDigits : PySem.W.findIn K (.ref c_InvalidDigits) "__setattr__" = some (some (.builtin "object.__setattr__")))
    (sx_InvalidDigits : PySem.W.subIn K (.ref c_InvalidDigits) (.type "BaseException") = some true)
    (kc_InvalidDigits : PySem.W.keepIn K (.ref c_InvalidDigits) = true)
    (ci_InvalidMoves : PySem.W.clsIn K c_InvalidMoves = some ccd_InvalidMoves)
    (cm_InvalidMoves : ccd_InvalidMoves.mro = mroL [c_InvalidMoves, c_ShapeError] ["ValueError", "Exception", "BaseException", "object"])
    (tp_InvalidMoves : PySem.W.typeIn K (.ref c_InvalidMoves) = some (.type "type"))
    (ha_InvalidMoves : PySem.W.findIn K (.ref c_InvalidMoves) "__class__" = some (some (.builtin "object.__class__")))
    (xa_InvalidMoves : PySem.W.findIn K (.ref c_InvalidMoves) "__getattribute__" = some (some (.builtin "BaseException.__getattribute__")))
    (xg_InvalidMoves : PySem.W.findIn K (.ref c_InvalidMoves) "__getattr__" = some none)
    (xs_InvalidMoves : PySem.W.subIn K (.ref c_InvalidMoves) (.type "BaseException") = some true)
    (xd_InvalidMoves : PySem.W.hasDictIn K c_InvalidMoves = true)
    (mo_InvalidMoves : PySem.W.mroIn K c_InvalidMoves (.type "object") = some true)
    (nf_InvalidMoves_deed : PySem.W.findIn K (.ref c_InvalidMoves) "deed" = some none)
    (nf_InvalidMoves_shown : PySem.W.findIn K (.ref c_InvalidMoves) "shown" = some none)
    (nf_InvalidMoves_given : PySem.W.findIn K (.ref c_InvalidMoves) "given" = some none)
    (nf_InvalidMoves_many : PySem.W.findIn K (.ref c_InvalidMoves) "many" = some none)
    (nf_InvalidMoves_limit : PySem.W.findIn K (.ref c_InvalidMoves) "limit" = some none)
    (nf_InvalidMoves_value : PySem.W.findIn K (.ref c_InvalidMoves) "value" = some none)
    (nf_InvalidMoves_index : PySem.W.findIn K (.ref c_InvalidMoves) "index" = some none)
    (ox_InvalidMoves : K.lookup c_InvalidMoves = some (excClassObj xnm_InvalidMoves xq_InvalidMoves c_InvalidMoves xN_InvalidMoves xbs_InvalidMoves xbm_InvalidMoves true xsn_InvalidMoves xsub_InvalidMoves xab_InvalidMoves xcol_InvalidMoves xdd_InvalidMoves xk0_InvalidMoves xk1_InvalidMoves xk2_InvalidMoves xk3_InvalidMoves xk5_InvalidMoves "ValueError.__new__"))
    (rv_InvalidMoves : refsT [.type "ValueError", .type "Exception", .type "BaseException", .type "object"] xbm_InvalidMoves = true)
    (sa_InvalidMoves : PySem.W.findIn K (.ref c_InvalidMoves) "__setattr__" = some (some (.builtin "object.__setattr__")))
    (sx_InvalidMoves : PySem.W.subIn K (.ref c_InvalidMoves) (.type "BaseException") = some true)
    (kc_InvalidMoves : PySem.W.keepIn K (.ref c_InvalidMoves) = true)
    (ci_InvalidSigns : PySem.W.clsIn K c_InvalidSigns = some ccd_InvalidSigns)
    (cm_InvalidSigns : ccd_InvalidSigns.mro = mroL [c_InvalidSigns, c_ShapeError] ["ValueError", "Exception", "BaseException", "object"])
    (tp_InvalidSigns : PySem.W.typeIn K (.ref c_InvalidSigns) = some (.type "type"))
    (ha_InvalidSigns : PySem.W.findIn K (.ref c_InvalidSigns) "__class__" = some (some (.builtin "object.__class__")))
    (xa_InvalidSigns : PySem.W.findIn K (.ref c_InvalidSigns) "__getattribute__" = some (some (.builtin "BaseException.__getattribute__")))
    (xg_InvalidSigns : PySem.W.findIn K (.ref c_InvalidSigns) "__getattr__" = some none)
    (xs_InvalidSigns : PySem.W.subIn K (.ref c_InvalidSigns) (.type "BaseException") = some true)
    (xd_InvalidSigns : PySem.W.hasDictIn K c_InvalidSigns = true)
    (mo_InvalidSigns : PySem.W.mroIn K c_InvalidSigns (.type "object") = some true)
    (nf_InvalidSigns_deed : PySem.W.findIn K (.ref c_InvalidSigns) "deed" = some none)
    (nf_InvalidSigns_shown : PySem.W.findIn K (.ref c_InvalidSigns) "shown" = some none)
    (nf_InvalidSigns_given : PySem.W.findIn K (.ref c_InvalidSigns) "given" = some none)
    (nf_InvalidSigns_many : PySem.W.findIn K (.ref c_InvalidSigns) "many" = some none)
    (nf_InvalidSigns_limit : PySem.W.findIn K (.ref c_InvalidSigns) "limit" = some none)
    (nf_InvalidSigns_value : PySem.W.findIn K (.ref c_InvalidSigns) "value" = some none)
    (nf_InvalidSigns_index : PySem.W.findIn K (.ref c_InvalidSigns) "index" = some none)
    (ox_InvalidSigns : K.lookup c_InvalidSigns = some (excClassObj xnm_InvalidSigns xq_InvalidSigns c_InvalidSigns xN_InvalidSigns xbs_InvalidSigns xbm_InvalidSigns true xsn_InvalidSigns xsub_InvalidSigns xab_InvalidSigns xcol_InvalidSigns xdd_InvalidSigns xk0_InvalidSigns xk1_InvalidSigns xk2_InvalidSigns xk3_InvalidSigns xk5_InvalidSigns "ValueError.__new__"))
    (rv_InvalidSigns : refsT [.type "ValueError", .type "Exception", .type "BaseException", .type "object"] xbm_InvalidSigns = true)
    (sa_InvalidSigns : PySem.W.findIn K (.ref c_InvalidSigns) "__setattr__" = some (some (.builtin "object.__setattr__")))
    (sx_InvalidSigns : PySem.W.subIn K (.ref c_InvalidSigns) (.type "BaseException") = some true)
    (kc_InvalidSigns : PySem.W.keepIn K (.ref c_InvalidSigns) = true)
    (ci_InvalidRule : PySem.W.clsIn K c_InvalidRule = some ccd_InvalidRule)
    (cm_InvalidRule : ccd_InvalidRule.mro = mroL [c_InvalidRule, c_ShapeError] ["ValueError", "Exception", "BaseException", "object"])
    (tp_InvalidRule : PySem.W.typeIn K (.ref c_InvalidRule) = some (.type "type"))
    (ha_InvalidRule : PySem.W.findIn K (.ref c_InvalidRule) "__class__" = some (some (.builtin "object.__class__")))
    (xa_InvalidRule : PySem.W.findIn K (.ref c_InvalidRule) "__getattribute__" = some (some (.builtin "BaseException.__getattribute__")))
    (xg_InvalidRule : PySem.W.findIn K (.ref c_InvalidRule) "__getattr__" = some none)
    (xs_InvalidRule : PySem.W.subIn K (.ref c_InvalidRule) (.type "BaseException") = some true)
    (xd_InvalidRule : PySem.W.hasDictIn K c_InvalidRule = true)
    (mo_InvalidRule : PySem.W.mroIn K c_InvalidRule (.type "object") = some true)
    (nf_InvalidRule_deed : PySem.W.findIn K (.ref c_InvalidRule) "deed" = some none)
    (nf_InvalidRule_shown : PySem.W.findIn K (.ref c_InvalidRule) "shown" = some none)
    (nf_InvalidRule_given : PySem.W.findIn K (.ref c_InvalidRule) "given" = some none)
    (nf_InvalidRule_many : PySem.W.findIn K (.ref c_InvalidRule) "many" = some none)
    (nf_InvalidRule_limit : PySem.W.findIn K (.ref c_InvalidRule) "limit" = some none)
    (nf_InvalidRule_value : PySem.W.findIn K (.ref c_InvalidRule) "value" = some none)
    (nf_InvalidRule_index : PySem.W.findIn K (.ref c_InvalidRule) "index" = some none)
    (ox_InvalidRule : K.lookup c_InvalidRule = some (excClassObj xnm_InvalidRule xq_InvalidRule c_InvalidRule xN_InvalidRule xbs_InvalidRule xbm_InvalidRule true xsn_InvalidRule xsub_InvalidRule xab_InvalidRule xcol_InvalidRule xdd_InvalidRule xk0_InvalidRule xk1_InvalidRule xk2_InvalidRule xk3_InvalidRule xk5_InvalidRule "ValueError.__new__"))
    (rv_InvalidRule : refsT [.type "ValueError", .type "Exception", .type "BaseException", .type "object"] xbm_InvalidRule = true)
    (sa_InvalidRule : PySem.W.findIn K (.ref c_InvalidRule) "__setattr__" = some (some (.builtin "object.__setattr__")))
    (sx_InvalidRule : PySem.W.subIn K (.ref c_InvalidRule) (.type "BaseException") = some true)
    (kc_InvalidRule : PySem.W.keepIn K (.ref c_InvalidRule) = true)
    (ci_InvalidName : PySem.W.clsIn K c_InvalidName = some ccd_InvalidName)
    (cm_InvalidName : ccd_InvalidName.mro = mroL [c_InvalidName, c_ShapeError] ["ValueError", "Exception", "BaseException", "object"])
    (tp_InvalidName : PySem.W.typeIn K (.ref c_InvalidName) = some (.type "type"))
    (ha_InvalidName : PySem.W.findIn K (.ref c_InvalidName) "__class__" = some (some (.builtin "object.__class__")))
    (xa_InvalidName : PySem.W.findIn K (.ref c_InvalidName) "__getattribute__" = some (some (.builtin "BaseException.__getattribute__")))
    (xg_InvalidName : PySem.W.findIn K (.ref c_InvalidName) "__getattr__" = some none)
    (xs_InvalidName : PySem.W.subIn K (.ref c_InvalidName) (.type "BaseException") = some true)
    (xd_InvalidName : PySem.W.hasDictIn K c_InvalidName = true)
    (mo_InvalidName : PySem.W.mroIn K c_InvalidName (.type "object") = some true)
    (nf_InvalidName_deed : PySem.W.findIn K (.ref c_InvalidName) "deed" = some none)
    (nf_InvalidName_shown : PySem.W.findIn K (.ref c_InvalidName) "shown" = some none)
    (nf_InvalidName_given : PySem.W.findIn K (.ref c_InvalidName) "given" = some none)
    (nf_InvalidName_many : PySem.W.findIn K (.ref c_InvalidName) "many" = some none)
    (nf_InvalidName_limit : PySem.W.findIn K (.ref c_InvalidName) "limit" = some none)
    (nf_InvalidName_value : PySem.W.findIn K (.ref c_InvalidName) "value" = some none)
    (nf_InvalidName_index : PySem.W.findIn K (.ref c_InvalidName) "index" = some none)
    (ox_InvalidName : K.lookup c_InvalidName = some (excClassObj xnm_InvalidName xq_InvalidName c_InvalidName xN_InvalidName xbs_InvalidName xbm_InvalidName true xsn_InvalidName xsub_InvalidName xab_InvalidName xcol_InvalidName xdd_InvalidName xk0_InvalidName xk1_InvalidName xk2_InvalidName xk3_InvalidName xk5_InvalidName "ValueError.__new__"))
    (rv_InvalidName : refsT [.type "ValueError", .type "Exception", .type "BaseException", .type "object"] xbm_InvalidName = true)
    (sa_InvalidName : PySem.W.findIn K (.ref c_InvalidName) "__setattr__" = some (some (.builtin "object.__setattr__")))
    (sx_InvalidName : PySem.W.subIn K (.ref c_InvalidName) (.type "BaseException") = some true)
    (kc_InvalidName : PySem.W.keepIn K (.ref c_InvalidName) = true)
    (ci_InvalidWish : PySem.W.clsIn K c_InvalidWish = some ccd_InvalidWish)
    (cm_InvalidWish : ccd_InvalidWish.mro = mroL [c_InvalidWish, c_ShapeError] ["ValueError", "Exception", "BaseException", "object"])
    (tp_InvalidWish : PySem.W.typeIn K (.ref c_InvalidWish) = some (.type "type"))
    (ha_InvalidWish : PySem.W.findIn K (.ref c_InvalidWish) "__class__" = some (some (.builtin "object.__class__")))
    (xa_InvalidWish : PySem.W.findIn K (.ref c_InvalidWish) "__getattribute__" = some (some (.builtin "BaseException.__getattribute__")))
    (xg_InvalidWish : PySem.W.findIn K (.ref c_InvalidWish) "__getattr__" = some none)
    (xs_InvalidWish : PySem.W.subIn K (.ref c_InvalidWish) (.type "BaseException") = some true)
    (xd_InvalidWish : PySem.W.hasDictIn K c_InvalidWish = true)
    (mo_InvalidWish : PySem.W.mroIn K c_InvalidWish (.type "object") = some true)
    (nf_InvalidWish_deed : PySem.W.findIn K (.ref c_InvalidWish) "deed" = some none)
    (nf_InvalidWish_shown : PySem.W.findIn K (.ref c_InvalidWish) "shown" = some none)
    (nf_InvalidWish_given : PySem.W.findIn K (.ref c_InvalidWish) "given" = some none)
    (nf_InvalidWish_many : PySem.W.findIn K (.ref c_InvalidWish) "many" = some none)
    (nf_InvalidWish_limit : PySem.W.findIn K (.ref c_InvalidWish) "limit" = some none)
    (nf_InvalidWish_value : PySem.W.findIn K (.ref c_InvalidWish) "value" = some none)
    (nf_InvalidWish_index : PySem.W.findIn K (.ref c_InvalidWish) "index" = some none)
    (ox_InvalidWish : K.lookup c_InvalidWish = some (excClassObj xnm_InvalidWish xq_InvalidWish c_InvalidWish xN_InvalidWish xbs_InvalidWish xbm_InvalidWish true xsn_InvalidWish xsub_InvalidWish xab_InvalidWish xcol_InvalidWish xdd_InvalidWish xk0_InvalidWish xk1_InvalidWish xk2_InvalidWish xk3_InvalidWish xk5_InvalidWish "ValueError.__new__"))
    (rv_InvalidWish : refsT [.type "ValueError", .type "Exception", .type "BaseException", .type "object"] xbm_InvalidWish = true)
    (sa_InvalidWish : PySem.W.findIn K (.ref c_InvalidWish) "__setattr__" = some (some (.builtin "object.__setattr__")))
    (sx_InvalidWish : PySem.W.subIn K (.ref c_InvalidWish) (.type "BaseException") = some true)
    (kc_InvalidWish : PySem.W.keepIn K (.ref c_InvalidWish) = true)
    (ci_InvalidText : PySem.W.clsIn K c_InvalidText = some ccd_InvalidText)
    (cm_InvalidText : ccd_InvalidText.mro = mroL [c_InvalidText, c_ShapeError] ["ValueError", "Exception", "BaseException", "object"])
    (tp_InvalidText : PySem.W.typeIn K (.ref c_InvalidText) = some (.type "type"))
    (ha_InvalidText : PySem.W.findIn K (.ref c_InvalidText) "__class__" = some (some (.builtin "object.__class__")))
    (xa_InvalidText : PySem.W.findIn K (.ref c_InvalidText) "__getattribute__" = some (some (.builtin "BaseException.__getattribute__")))
    (xg_InvalidText : PySem.W.findIn K (.ref c_InvalidText) "__getattr__" = some none)
    (xs_InvalidText : PySem.W.subIn K (.ref c_InvalidText) (.type "BaseException") = some true)
    (xd_InvalidText : PySem.W.hasDictIn K c_InvalidText = true)
    (mo_InvalidText : PySem.W.mroIn K c_InvalidText (.type "object") = some true)
    (nf_InvalidText_deed : PySem.W.findIn K (.ref c_InvalidText) "deed" = some none)
    (nf_InvalidText_shown : PySem.W.findIn K (.ref c_InvalidText) "shown" = some none)
    (nf_InvalidText_given : PySem.W.findIn K (.ref c_InvalidText) "given" = some none)
    (nf_InvalidText_many : PySem.W.findIn K (.ref c_InvalidText) "many" = some none)
    (nf_InvalidText_limit : PySem.W.findIn K (.ref c_InvalidText) "limit" = some none)
    (nf_InvalidText_value : PySem.W.findIn K (.ref c_InvalidText) "value" = some none)
    (nf_InvalidText_index : PySem.W.findIn K (.ref c_InvalidText) "index" = some none)
    (ox_InvalidText : K.lookup c_InvalidText = some (excClassObj xnm_InvalidText xq_InvalidText c_InvalidText xN_InvalidText xbs_InvalidText xbm_InvalidText true xsn_InvalidText xsub_InvalidText xab_InvalidText xcol_InvalidText xdd_InvalidText xk0_InvalidText xk1_InvalidText xk2_InvalidText xk3_InvalidText xk5_InvalidText "ValueError.__new__"))
    (rv_InvalidText : refsT [.type "ValueError", .type "Exception", .type "BaseException", .type "object"] xbm_InvalidText = true)
    (sa_InvalidText : PySem.W.findIn K (.ref c_InvalidText) "__setattr__" = some (some (.builtin "object.__setattr__")))
    (sx_InvalidText : PySem.W.subIn K (.ref c_InvalidText) (.type "BaseException") = some true)
    (kc_InvalidText : PySem.W.keepIn K (.ref c_InvalidText) = true)
    (ci_InvalidRows : PySem.W.clsIn K c_InvalidRows = some ccd_InvalidRows)
    (cm_InvalidRows : ccd_InvalidRows.mro = mroL [c_InvalidRows, c_ShapeError] ["ValueError", "Exception", "BaseException", "object"])
    (tp_InvalidRows : PySem.W.typeIn K (.ref c_InvalidRows) = some (.type "type"))
    (ha_InvalidRows : PySem.W.findIn K (.ref c_InvalidRows) "__class__" = some (some (.builtin "object.__class__")))
    (xa_InvalidRows : PySem.W.findIn K (.ref c_InvalidRows) "__getattribute__" = some (some (.builtin "BaseException.__getattribute__")))
    (xg_InvalidRows : PySem.W.findIn K (.ref c_InvalidRows) "__getattr__" = some none)
    (xs_InvalidRows : PySem.W.subIn K (.ref c_InvalidRows) (.type "BaseException") = some true)
    (xd_InvalidRows : PySem.W.hasDictIn K c_InvalidRows = true)
    (mo_InvalidRows : PySem.W.mroIn K c_InvalidRows (.type "object") = some true)
    (nf_InvalidRows_deed : PySem.W.findIn K (.ref c_InvalidRows) "deed" = some none)
    (nf_InvalidRows_shown : PySem.W.findIn K (.ref c_InvalidRows) "shown" = some none)
    (nf_InvalidRows_given : PySem.W.findIn K (.ref c_InvalidRows) "given" = some none)
    (nf_InvalidRows_many : PySem.W.findIn K (.ref c_InvalidRows) "many" = some none)
    (nf_InvalidRows_limit : PySem.W.findIn K (.ref c_InvalidRows) "limit" = some none)
    (nf_InvalidRows_value : PySem.W.findIn K (.ref c_InvalidRows) "value" = some none)
    (nf_InvalidRows_index : PySem.W.findIn K (.ref c_InvalidRows) "index" = some none)
    (ox_InvalidRows : K.lookup c_InvalidRows = some (excClassObj xnm_InvalidRows xq_InvalidRows c_InvalidRows xN_InvalidRows xbs_InvalidRows xbm_InvalidRows true xsn_InvalidRows xsub_InvalidRows xab_InvalidRows xcol_InvalidRows xdd_InvalidRows xk0_InvalidRows xk1_InvalidRows xk2_InvalidRows xk3_InvalidRows xk5_InvalidRows "ValueError.__new__"))
    (rv_InvalidRows : refsT [.type "ValueError", .type "Exception", .type "BaseException", .type "object"] xbm_InvalidRows = true)
    (sa_InvalidRows : PySem.W.findIn K (.ref c_InvalidRows) "__setattr__" = some (some (.builtin "object.__setattr__")))
    (sx_InvalidRows : PySem.W.subIn K (.ref c_InvalidRows) (.type "BaseException") = some true)
    (kc_InvalidRows : PySem.W.keepIn K (.ref c_InvalidRows) = true)
    (ci_InvalidSayings : PySem.W.clsIn K c_InvalidSayings = some ccd_InvalidSayings)
    (cm_InvalidSayings : ccd_InvalidSayings.mro = mroL [c_InvalidSayings, c_ShapeError] ["ValueError", "Exception", "BaseException", "object"])
    (tp_InvalidSayings : PySem.W.typeIn K (.ref c_InvalidSayings) = some (.type "type"))
    (ha_InvalidSayings : PySem.W.findIn K (.ref c_InvalidSayings) "__class__" = some (some (.builtin "object.__class__")))
    (xa_InvalidSayings : PySem.W.findIn K (.ref c_InvalidSayings) "__getattribute__" = some (some (.builtin "BaseException.__getattribute__")))
    (xg_InvalidSayings : PySem.W.findIn K (.ref c_InvalidSayings) "__getattr__" = some none)
    (xs_InvalidSayings : PySem.W.subIn K (.ref c_InvalidSayings) (.type "BaseException") = some true)
    (xd_InvalidSayings : PySem.W.hasDictIn K c_InvalidSayings = true)
    (mo_InvalidSayings : PySem.W.mroIn K c_InvalidSayings (.type "object") = some true)
    (nf_InvalidSayings_deed : PySem.W.findIn K (.ref c_InvalidSayings) "deed" = some none)
    (nf_InvalidSayings_shown : PySem.W.findIn K (.ref c_InvalidSayings) "shown" = some none)
    (nf_InvalidSayings_given : PySem.W.findIn K (.ref c_InvalidSayings) "given" = some none)
    (nf_InvalidSayings_many : PySem.W.findIn K (.ref c_InvalidSayings) "many" = some none)
    (nf_InvalidSayings_limit : PySem.W.findIn K (.ref c_InvalidSayings) "limit" = some none)
    (nf_InvalidSayings_value : PySem.W.findIn K (.ref c_InvalidSayings) "value" = some none)
    (nf_InvalidSayings_index : PySem.W.findIn K (.ref c_InvalidSayings) "index" = some none)
    (ox_InvalidSayings : K.lookup c_InvalidSayings = some (excClassObj xnm_InvalidSayings xq_InvalidSayings c_InvalidSayings xN_InvalidSayings xbs_InvalidSayings xbm_InvalidSayings true xsn_InvalidSayings xsub_InvalidSayings xab_InvalidSayings xcol_InvalidSayings xdd_InvalidSayings xk0_InvalidSayings xk1_InvalidSayings xk2_InvalidSayings xk3_InvalidSayings xk5_InvalidSayings "ValueError.__new__"))
    (rv_InvalidSayings : refsT [.type "ValueError", .type "Exception", .type "BaseException", .type "object"] xbm_InvalidSayings = true)
    (sa_InvalidSayings : PySem.W.findIn K (.ref c_InvalidSayings) "__setattr__" = some (some (.builtin "object.__setattr__")))
    (sx_InvalidSayings : PySem.W.subIn K (.ref c_InvalidSayings) (.type "BaseException") = some true)
    (kc_InvalidSayings : PySem.W.keepIn K (.ref c_InvalidSayings) = true)
    (ci_InvalidGood : PySem.W.clsIn K c_InvalidGood = some ccd_InvalidGood)
    (cm_InvalidGood : ccd_InvalidGood.mro = mroL [c_InvalidGood, c_ShapeError] ["ValueError", "Exception", "BaseException", "object"])
    (tp_InvalidGood : PySem.W.typeIn K (.ref c_InvalidGood) = some (.type "type"))
    (ha_InvalidGood : PySem.W.findIn K (.ref c_InvalidGood) "__class__" = some (some (.builtin "object.__class__")))
    (xa_InvalidGood : PySem.W.findIn K (.ref c_InvalidGood) "__getattribute__" = some (some (.builtin "BaseException.__getattribute__")))
    (xg_InvalidGood : PySem.W.findIn K (.ref c_InvalidGood) "__getattr__" = some none)
    (xs_InvalidGood : PySem.W.subIn K (.ref c_InvalidGood) (.type "BaseException") = some true)
    (xd_InvalidGood : PySem.W.hasDictIn K c_InvalidGood = true)
    (mo_InvalidGood : PySem.W.mroIn K c_InvalidGood (.type "object") = some true)
    (nf_InvalidGood_deed : PySem.W.findIn K (.ref c_InvalidGood) "deed" = some none)
    (nf_InvalidGood_shown : PySem.W.findIn K (.ref c_InvalidGood) "shown" = some none)
    (nf_InvalidGood_given : PySem.W.findIn K (.ref c_InvalidGood) "given" = some none)
    (nf_InvalidGood_many : PySem.W.findIn K (.ref c_InvalidGood) "many" = some none)
    (nf_InvalidGood_limit : PySem.W.findIn K (.ref c_InvalidGood) "limit" = some none)
    (nf_InvalidGood_value : PySem.W.findIn K (.ref c_InvalidGood) "value" = some none)
    (nf_InvalidGood_index : PySem.W.findIn K (.ref c_InvalidGood) "index" = some none)
    (ox_InvalidGood : K.lookup c_InvalidGood = some (excClassObj xnm_InvalidGood xq_InvalidGood c_InvalidGood xN_InvalidGood xbs_InvalidGood xbm_InvalidGood true xsn_InvalidGood xsub_InvalidGood xab_InvalidGood xcol_InvalidGood xdd_InvalidGood xk0_InvalidGood xk1_InvalidGood xk2_InvalidGood xk3_InvalidGood xk5_InvalidGood "ValueError.__new__"))
    (rv_InvalidGood : refsT [.type "ValueError", .type "Exception", .type "BaseException", .type "object"] xbm_InvalidGood = true)
    (sa_InvalidGood : PySem.W.findIn K (.ref c_InvalidGood) "__setattr__" = some (some (.builtin "object.__setattr__")))
    (sx_InvalidGood : PySem.W.subIn K (.ref c_InvalidGood) (.type "BaseException") = some true)
    (kc_InvalidGood : PySem.W.keepIn K (.ref c_InvalidGood) = true)
    (ci_InvalidGuards : PySem.W.clsIn K c_InvalidGuards = some ccd_InvalidGuards)
    (cm_InvalidGuards : ccd_InvalidGuards.mro = mroL [c_InvalidGuards, c_ShapeError] ["ValueError", "Exception", "BaseException", "object"])
    (tp_InvalidGuards : PySem.W.typeIn K (.ref c_InvalidGuards) = some (.type "type"))
    (ha_InvalidGuards : PySem.W.findIn K (.ref c_InvalidGuards) "__class__" = some (some (.builtin "object.__class__")))
    (xa_InvalidGuards : PySem.W.findIn K (.ref c_InvalidGuards) "__getattribute__" = some (some (.builtin "BaseException.__getattribute__")))
    (xg_InvalidGuards : PySem.W.findIn K (.ref c_InvalidGuards) "__getattr__" = some none)
    (xs_InvalidGuards : PySem.W.subIn K (.ref c_InvalidGuards) (.type "BaseException") = some true)
    (xd_InvalidGuards : PySem.W.hasDictIn K c_InvalidGuards = true)
    (mo_InvalidGuards : PySem.W.mroIn K c_InvalidGuards (.type "object") = some true)
    (nf_InvalidGuards_deed : PySem.W.findIn K (.ref c_InvalidGuards) "deed" = some none)
    (nf_InvalidGuards_shown : PySem.W.findIn K (.ref c_InvalidGuards) "shown" = some none)
    (nf_InvalidGuards_given : PySem.W.findIn K (.ref c_InvalidGuards) "given" = some none)
    (nf_InvalidGuards_many : PySem.W.findIn K (.ref c_InvalidGuards) "many" = some none)
    (nf_InvalidGuards_limit : PySem.W.findIn K (.ref c_InvalidGuards) "limit" = some none)
    (nf_InvalidGuards_value : PySem.W.findIn K (.ref c_InvalidGuards) "value" = some none)
    (nf_InvalidGuards_index : PySem.W.findIn K (.ref c_InvalidGuards) "index" = some none)
    (ox_InvalidGuards : K.lookup c_InvalidGuards = some (excClassObj xnm_InvalidGuards xq_InvalidGuards c_InvalidGuards xN_InvalidGuards xbs_InvalidGuards xbm_InvalidGuards true xsn_InvalidGuards xsub_InvalidGuards xab_InvalidGuards xcol_InvalidGuards xdd_InvalidGuards xk0_InvalidGuards xk1_InvalidGuards xk2_InvalidGuards xk3_InvalidGuards xk5_InvalidGuards "ValueError.__new__"))
    (rv_InvalidGuards : refsT [.type "ValueError", .type "Exception", .type "BaseException", .type "object"] xbm_InvalidGuards = true)
    (sa_InvalidGuards : PySem.W.findIn K (.ref c_InvalidGuards) "__setattr__" = some (some (.builtin "object.__setattr__")))
    (sx_InvalidGuards : PySem.W.subIn K (.ref c_InvalidGuards) (.type "BaseException") = some true)
    (kc_InvalidGuards : PySem.W.keepIn K (.ref c_InvalidGuards) = true)
    (ci_InvalidDeed : PySem.W.clsIn K c_InvalidDeed = some ccd_InvalidDeed)
    (cm_InvalidDeed : ccd_InvalidDeed.mro = mroL [c_InvalidDeed, c_ShapeError] ["ValueError", "Exception", "BaseException", "object"])
    (tp_InvalidDeed : PySem.W.typeIn K (.ref c_InvalidDeed) = some (.type "type"))
    (ha_InvalidDeed : PySem.W.findIn K (.ref c_InvalidDeed) "__class__" = some (some (.builtin "object.__class__")))
    (xa_InvalidDeed : PySem.W.findIn K (.ref c_InvalidDeed) "__getattribute__" = some (some (.builtin "BaseException.__getattribute__")))
    (xg_InvalidDeed : PySem.W.findIn K (.ref c_InvalidDeed) "__getattr__" = some none)
    (xs_InvalidDeed : PySem.W.subIn K (.ref c_InvalidDeed) (.type "BaseException") = some true)
    (xd_InvalidDeed : PySem.W.hasDictIn K c_InvalidDeed = true)
    (mo_InvalidDeed : PySem.W.mroIn K c_InvalidDeed (.type "object") = some true)
    (nf_InvalidDeed_deed : PySem.W.findIn K (.ref c_InvalidDeed) "deed" = some none)
    (nf_InvalidDeed_shown : PySem.W.findIn K (.ref c_InvalidDeed) "shown" = some none)
    (nf_InvalidDeed_given : PySem.W.findIn K (.ref c_InvalidDeed) "given" = some none)
    (nf_InvalidDeed_many : PySem.W.findIn K (.ref c_InvalidDeed) "many" = some none)
    (nf_InvalidDeed_limit : PySem.W.findIn K (.ref c_InvalidDeed) "limit" = some none)
    (nf_InvalidDeed_value : PySem.W.findIn K (.ref c_InvalidDeed) "value" = some none)
    (nf_InvalidDeed_index : PySem.W.findIn K (.ref c_InvalidDeed) "index" = some none)
    (ox_InvalidDeed : K.lookup c_InvalidDeed = some (excClassObj xnm_InvalidDeed xq_InvalidDeed c_InvalidDeed xN_InvalidDeed xbs_InvalidDeed xbm_InvalidDeed true xsn_InvalidDeed xsub_InvalidDeed xab_InvalidDeed xcol_InvalidDeed xdd_InvalidDeed xk0_InvalidDeed xk1_InvalidDeed xk2_InvalidDeed xk3_InvalidDeed xk5_InvalidDeed "ValueError.__new__"))
    (rv_InvalidDeed : refsT [.type "ValueError", .type "Exception", .type "BaseException", .type "object"] xbm_InvalidDeed = true)
    (sa_InvalidDeed : PySem.W.findIn K (.ref c_InvalidDeed) "__setattr__" = some (some (.builtin "object.__setattr__")))
    (sx_InvalidDeed : PySem.W.subIn K (.ref c_InvalidDeed) (.type "BaseException") = some true)
    (kc_InvalidDeed : PySem.W.keepIn K (.ref c_InvalidDeed) = true)
    (ci_InvalidLine : PySem.W.clsIn K c_InvalidLine = some ccd_InvalidLine)
    (cm_InvalidLine : ccd_InvalidLine.mro = mroL [c_InvalidLine, c_ShapeError] ["ValueError", "Exception", "BaseException", "object"])
    (tp_InvalidLine : PySem.W.typeIn K (.ref c_InvalidLine) = some (.type "type"))
    (ha_InvalidLine : PySem.W.findIn K (.ref c_InvalidLine) "__class__" = some (some (.builtin "object.__class__")))
    (xa_InvalidLine : PySem.W.findIn K (.ref c_InvalidLine) "__getattribute__" = some (some (.builtin "BaseException.__getattribute__")))
    (xg_InvalidLine : PySem.W.findIn K (.ref c_InvalidLine) "__getattr__" = some none)
    (xs_InvalidLine : PySem.W.subIn K (.ref c_InvalidLine) (.type "BaseException") = some true)
    (xd_InvalidLine : PySem.W.hasDictIn K c_InvalidLine = true)
    (mo_InvalidLine : PySem.W.mroIn K c_InvalidLine (.type "object") = some true)
    (nf_InvalidLine_deed : PySem.W.findIn K (.ref c_InvalidLine) "deed" = some none)
    (nf_InvalidLine_shown : PySem.W.findIn K (.ref c_InvalidLine) "shown" = some none)
    (nf_InvalidLine_given : PySem.W.findIn K (.ref c_InvalidLine) "given" = some none)
    (nf_InvalidLine_many : PySem.W.findIn K (.ref c_InvalidLine) "many" = some none)
    (nf_InvalidLine_limit : PySem.W.findIn K (.ref c_InvalidLine) "limit" = some none)
    (nf_InvalidLine_value : PySem.W.findIn K (.ref c_InvalidLine) "value" = some none)
    (nf_InvalidLine_index : PySem.W.findIn K (.ref c_InvalidLine) "index" = some none)
    (ox_InvalidLine : K.lookup c_InvalidLine = some (excClassObj xnm_InvalidLine xq_InvalidLine c_InvalidLine xN_InvalidLine xbs_InvalidLine xbm_InvalidLine true xsn_InvalidLine xsub_InvalidLine xab_InvalidLine xcol_InvalidLine xdd_InvalidLine xk0_InvalidLine xk1_InvalidLine xk2_InvalidLine xk3_InvalidLine xk5_InvalidLine "ValueError.__new__"))
    (rv_InvalidLine : refsT [.type "ValueError", .type "Exception", .type "BaseException", .type "object"] xbm_InvalidLine = true)
    (sa_InvalidLine : PySem.W.findIn K (.ref c_InvalidLine) "__setattr__" = some (some (.builtin "object.__setattr__")))
    (sx_InvalidLine : PySem.W.subIn K (.ref c_InvalidLine) (.type "BaseException") = some true)
    (kc_InvalidLine : PySem.W.keepIn K (.ref c_InvalidLine) = true)
    (ci_NotASystem : PySem.W.clsIn K c_NotASystem = some ccd_NotASystem)
    (cm_NotASystem : ccd_NotASystem.mro = mroL [c_NotASystem, c_ShapeError] ["ValueError", "Exception", "BaseException", "object"])
    (tp_NotASystem : PySem.W.typeIn K (.ref c_NotASystem) = some (.type "type"))
    (ha_NotASystem : PySem.W.findIn K (.ref c_NotASystem) "__class__" = some (some (.builtin "object.__class__")))
    (xa_NotASystem : PySem.W.findIn K (.ref c_NotASystem) "__getattribute__" = some (some (.builtin "BaseException.__getattribute__")))
    (xg_NotASystem : PySem.W.findIn K (.ref c_NotASystem) "__getattr__" = some none)
    (xs_NotASystem : PySem.W.subIn K (.ref c_NotASystem) (.type "BaseException") = some true)
    (xd_NotASystem : PySem.W.hasDictIn K c_NotASystem = true)
    (mo_NotASystem : PySem.W.mroIn K c_NotASystem (.type "object") = some true)
    (nf_NotASystem_deed : PySem.W.findIn K (.ref c_NotASystem) "deed" = some none)
    (nf_NotASystem_shown : PySem.W.findIn K (.ref c_NotASystem) "shown" = some none)
    (nf_NotASystem_given : PySem.W.findIn K (.ref c_NotASystem) "given" = some none)
    (nf_NotASystem_many : PySem.W.findIn K (.ref c_NotASystem) "many" = some none)
    (nf_NotASystem_limit : PySem.W.findIn K (.ref c_NotASystem) "limit" = some none)
    (nf_NotASystem_value : PySem.W.findIn K (.ref c_NotASystem) "value" = some none)
    (nf_NotASystem_index : PySem.W.findIn K (.ref c_NotASystem) "index" = some none)
    (ox_NotASystem : K.lookup c_NotASystem = some (excClassObj xnm_NotASystem xq_NotASystem c_NotASystem xN_NotASystem xbs_NotASystem xbm_NotASystem true xsn_NotASystem xsub_NotASystem xab_NotASystem xcol_NotASystem xdd_NotASystem xk0_NotASystem xk1_NotASystem xk2_NotASystem xk3_NotASystem xk5_NotASystem "ValueError.__new__"))
    (rv_NotASystem : refsT [.type "ValueError", .type "Exception", .type "BaseException", .type "object"] xbm_NotASystem = true)
    (sa_NotASystem : PySem.W.findIn K (.ref c_NotASystem) "__setattr__" = some (some (.builtin "object.__setattr__")))
    (sx_NotASystem : PySem.W.subIn K (.ref c_NotASystem) (.type "BaseException") = some true)
    (kc_NotASystem : PySem.W.keepIn K (.ref c_NotASystem) = true)
    (ci_NotARow : PySem.W.clsIn K c_NotARow = some ccd_NotARow)
    (cm_NotARow : ccd_NotARow.mro = mroL [c_NotARow, c_ShapeError] ["ValueError", "Exception", "BaseException", "object"])
    (tp_NotARow : PySem.W.typeIn K (.ref c_NotARow) = some (.type "type"))
    (ha_NotARow : PySem.W.findIn K (.ref c_NotARow) "__class__" = some (some (.builtin "object.__class__")))
    (xa_NotARow : PySem.W.findIn K (.ref c_NotARow) "__getattribute__" = some (some (.builtin "BaseException.__getattribute__")))
    (xg_NotARow : PySem.W.findIn K (.ref c_NotARow) "__getattr__" = some none)
    (xs_NotARow : PySem.W.subIn K (.ref c_NotARow) (.type "BaseException") = some true)
    (xd_NotARow : PySem.W.hasDictIn K c_NotARow = true)
    (mo_NotARow : PySem.W.mroIn K c_NotARow (.type "object") = some true)
    (nf_NotARow_deed : PySem.W.findIn K (.ref c_NotARow) "deed" = some none)
    (nf_NotARow_shown : PySem.W.findIn K (.ref c_NotARow) "shown" = some none)
    (nf_NotARow_given : PySem.W.findIn K (.ref c_NotARow) "given" = some none)
    (nf_NotARow_many : PySem.W.findIn K (.ref c_NotARow) "many" = some none)
    (nf_NotARow_limit : PySem.W.findIn K (.ref c_NotARow) "limit" = some none)
    (nf_NotARow_value : PySem.W.findIn K (.ref c_NotARow) "value" = some none)
    (nf_NotARow_index : PySem.W.findIn K (.ref c_NotARow) "index" = some none)
    (ox_NotARow : K.lookup c_NotARow = some (excClassObj xnm_NotARow xq_NotARow c_NotARow xN_NotARow xbs_NotARow xbm_NotARow true xsn_NotARow xsub_NotARow xab_NotARow xcol_NotARow xdd_NotARow xk0_NotARow xk1_NotARow xk2_NotARow xk3_NotARow xk5_NotARow "ValueError.__new__"))
    (rv_NotARow : refsT [.type "ValueError", .type "Exception", .type "BaseException", .type "object"] xbm_NotARow = true)
    (sa_NotARow : PySem.W.findIn K (.ref c_NotARow) "__setattr__" = some (some (.builtin "object.__setattr__")))
    (sx_NotARow : PySem.W.subIn K (.ref c_NotARow) (.type "BaseException") = some true)
    (kc_NotARow : PySem.W.keepIn K (.ref c_NotARow) = true)
    (ci_NotAWish : PySem.W.clsIn K c_NotAWish = some ccd_NotAWish)
    (cm_NotAWish : ccd_NotAWish.mro = mroL [c_NotAWish, c_ShapeError] ["ValueError", "Exception", "BaseException", "object"])
    (tp_NotAWish : PySem.W.typeIn K (.ref c_NotAWish) = some (.type "type"))
    (ha_NotAWish : PySem.W.findIn K (.ref c_NotAWish) "__class__" = some (some (.builtin "object.__class__")))
    (xa_NotAWish : PySem.W.findIn K (.ref c_NotAWish) "__getattribute__" = some (some (.builtin "BaseException.__getattribute__")))
    (xg_NotAWish : PySem.W.findIn K (.ref c_NotAWish) "__getattr__" = some none)
    (xs_NotAWish : PySem.W.subIn K (.ref c_NotAWish) (.type "BaseException") = some true)
    (xd_NotAWish : PySem.W.hasDictIn K c_NotAWish = true)
    (mo_NotAWish : PySem.W.mroIn K c_NotAWish (.type "object") = some true)
    (nf_NotAWish_deed : PySem.W.findIn K (.ref c_NotAWish) "deed" = some none)
    (nf_NotAWish_shown : PySem.W.findIn K (.ref c_NotAWish) "shown" = some none)
    (nf_NotAWish_given : PySem.W.findIn K (.ref c_NotAWish) "given" = some none)
    (nf_NotAWish_many : PySem.W.findIn K (.ref c_NotAWish) "many" = some none)
    (nf_NotAWish_limit : PySem.W.findIn K (.ref c_NotAWish) "limit" = some none)
    (nf_NotAWish_value : PySem.W.findIn K (.ref c_NotAWish) "value" = some none)
    (nf_NotAWish_index : PySem.W.findIn K (.ref c_NotAWish) "index" = some none)
    (ox_NotAWish : K.lookup c_NotAWish = some (excClassObj xnm_NotAWish xq_NotAWish c_NotAWish xN_NotAWish xbs_NotAWish xbm_NotAWish true xsn_NotAWish xsub_NotAWish xab_NotAWish xcol_NotAWish xdd_NotAWish xk0_NotAWish xk1_NotAWish xk2_NotAWish xk3_NotAWish xk5_NotAWish "ValueError.__new__"))
    (rv_NotAWish : refsT [.type "ValueError", .type "Exception", .type "BaseException", .type "object"] xbm_NotAWish = true)
    (sa_NotAWish : PySem.W.findIn K (.ref c_NotAWish) "__setattr__" = some (some (.builtin "object.__setattr__")))
    (sx_NotAWish : PySem.W.subIn K (.ref c_NotAWish) (.type "BaseException") = some true)
    (kc_NotAWish : PySem.W.keepIn K (.ref c_NotAWish) = true)
    (ci_NotABook : PySem.W.clsIn K c_NotABook = some ccd_NotABook)
    (cm_NotABook : ccd_NotABook.mro = mroL [c_NotABook, c_ShapeError] ["ValueError", "Exception", "BaseException", "object"])
    (tp_NotABook : PySem.W.typeIn K (.ref c_NotABook) = some (.type "type"))
    (ha_NotABook : PySem.W.findIn K (.ref c_NotABook) "__class__" = some (some (.builtin "object.__class__")))
    (xa_NotABook : PySem.W.findIn K (.ref c_NotABook) "__getattribute__" = some (some (.builtin "BaseException.__getattribute__")))
    (xg_NotABook : PySem.W.findIn K (.ref c_NotABook) "__getattr__" = some none)
    (xs_NotABook : PySem.W.subIn K (.ref c_NotABook) (.type "BaseException") = some true)
    (xd_NotABook : PySem.W.hasDictIn K c_NotABook = true)
    (mo_NotABook : PySem.W.mroIn K c_NotABook (.type "object") = some true)
    (nf_NotABook_deed : PySem.W.findIn K (.ref c_NotABook) "deed" = some none)
    (nf_NotABook_shown : PySem.W.findIn K (.ref c_NotABook) "shown" = some none)
    (nf_NotABook_given : PySem.W.findIn K (.ref c_NotABook) "given" = some none)
    (nf_NotABook_many : PySem.W.findIn K (.ref c_NotABook) "many" = some none)
    (nf_NotABook_limit : PySem.W.findIn K (.ref c_NotABook) "limit" = some none)
    (nf_NotABook_value : PySem.W.findIn K (.ref c_NotABook) "value" = some none)
    (nf_NotABook_index : PySem.W.findIn K (.ref c_NotABook) "index" = some none)
    (ox_NotABook : K.lookup c_NotABook = some (excClassObj xnm_NotABook xq_NotABook c_NotABook xN_NotABook xbs_NotABook xbm_NotABook true xsn_NotABook xsub_NotABook xab_NotABook xcol_NotABook xdd_NotABook xk0_NotABook xk1_NotABook xk2_NotABook xk3_NotABook xk5_NotABook "ValueError.__new__"))
    (rv_NotABook : refsT [.type "ValueError", .type "Exception", .type "BaseException", .type "object"] xbm_NotABook = true)
    (sa_NotABook : PySem.W.findIn K (.ref c_NotABook) "__setattr__" = some (some (.builtin "object.__setattr__")))
    (sx_NotABook : PySem.W.subIn K (.ref c_NotABook) (.type "BaseException") = some true)
    (kc_NotABook : PySem.W.keepIn K (.ref c_NotABook) = true)
    (ci_NotAMachine : PySem.W.clsIn K c_NotAMachine = some ccd_NotAMachine)
    (cm_NotAMachine : ccd_NotAMachine.mro = mroL [c_NotAMachine, c_ShapeError] ["ValueError", "Exception", "BaseException", "object"])
    (tp_NotAMachine : PySem.W.typeIn K (.ref c_NotAMachine) = some (.type "type"))
    (ha_NotAMachine : PySem.W.findIn K (.ref c_NotAMachine) "__class__" = some (some (.builtin "object.__class__")))
    (xa_NotAMachine : PySem.W.findIn K (.ref c_NotAMachine) "__getattribute__" = some (some (.builtin "BaseException.__getattribute__")))
    (xg_NotAMachine : PySem.W.findIn K (.ref c_NotAMachine) "__getattr__" = some none)
    (xs_NotAMachine : PySem.W.subIn K (.ref c_NotAMachine) (.type "BaseException") = some true)
    (xd_NotAMachine : PySem.W.hasDictIn K c_NotAMachine = true)
    (mo_NotAMachine : PySem.W.mroIn K c_NotAMachine (.type "object") = some true)
    (nf_NotAMachine_deed : PySem.W.findIn K (.ref c_NotAMachine) "deed" = some none)
    (nf_NotAMachine_shown : PySem.W.findIn K (.ref c_NotAMachine) "shown" = some none)
    (nf_NotAMachine_given : PySem.W.findIn K (.ref c_NotAMachine) "given" = some none)
    (nf_NotAMachine_many : PySem.W.findIn K (.ref c_NotAMachine) "many" = some none)
    (nf_NotAMachine_limit : PySem.W.findIn K (.ref c_NotAMachine) "limit" = some none)
    (nf_NotAMachine_value : PySem.W.findIn K (.ref c_NotAMachine) "value" = some none)
    (nf_NotAMachine_index : PySem.W.findIn K (.ref c_NotAMachine) "index" = some none)
    (ox_NotAMachine : K.lookup c_NotAMachine = some (excClassObj xnm_NotAMachine xq_NotAMachine c_NotAMachine xN_NotAMachine xbs_NotAMachine xbm_NotAMachine true xsn_NotAMachine xsub_NotAMachine xab_NotAMachine xcol_NotAMachine xdd_NotAMachine xk0_NotAMachine xk1_NotAMachine xk2_NotAMachine xk3_NotAMachine xk5_NotAMachine "ValueError.__new__"))
    (rv_NotAMachine : refsT [.type "ValueError", .type "Exception", .type "BaseException", .type "object"] xbm_NotAMachine = true)
    (sa_NotAMachine : PySem.W.findIn K (.ref c_NotAMachine) "__setattr__" = some (some (.builtin "object.__setattr__")))
    (sx_NotAMachine : PySem.W.subIn K (.ref c_NotAMachine) (.type "BaseException") = some true)
    (kc_NotAMachine : PySem.W.keepIn K (.ref c_NotAMachine) = true)
    (ci_QuestionError : PySem.W.clsIn K c_QuestionError = some ccd_QuestionError)
    (cm_QuestionError : ccd_QuestionError.mro = mroL [c_QuestionError] ["LookupError", "Exception", "BaseException", "object"])
    (tp_QuestionError : PySem.W.typeIn K (.ref c_QuestionError) = some (.type "type"))
    (ha_QuestionError : PySem.W.findIn K (.ref c_QuestionError) "__class__" = some (some (.builtin "object.__class__")))
    (xa_QuestionError : PySem.W.findIn K (.ref c_QuestionError) "__getattribute__" = some (some (.builtin "BaseException.__getattribute__")))
    (xg_QuestionError : PySem.W.findIn K (.ref c_QuestionError) "__getattr__" = some none)
    (xs_QuestionError : PySem.W.subIn K (.ref c_QuestionError) (.type "BaseException") = some true)
    (xd_QuestionError : PySem.W.hasDictIn K c_QuestionError = true)
    (mo_QuestionError : PySem.W.mroIn K c_QuestionError (.type "object") = some true)
    (nf_QuestionError_deed : PySem.W.findIn K (.ref c_QuestionError) "deed" = some none)
    (nf_QuestionError_shown : PySem.W.findIn K (.ref c_QuestionError) "shown" = some none)
    (nf_QuestionError_given : PySem.W.findIn K (.ref c_QuestionError) "given" = some none)
    (nf_QuestionError_many : PySem.W.findIn K (.ref c_QuestionError) "many" = some none)
    (nf_QuestionError_limit : PySem.W.findIn K (.ref c_QuestionError) "limit" = some none)
    (nf_QuestionError_value : PySem.W.findIn K (.ref c_QuestionError) "value" = some none)
    (nf_QuestionError_index : PySem.W.findIn K (.ref c_QuestionError) "index" = some none)
    (ci_OtherSystem : PySem.W.clsIn K c_OtherSystem = some ccd_OtherSystem)
    (cm_OtherSystem : ccd_OtherSystem.mro = mroL [c_OtherSystem, c_QuestionError] ["LookupError", "Exception", "BaseException", "object"])
    (tp_OtherSystem : PySem.W.typeIn K (.ref c_OtherSystem) = some (.type "type"))
    (ha_OtherSystem : PySem.W.findIn K (.ref c_OtherSystem) "__class__" = some (some (.builtin "object.__class__")))
    (xa_OtherSystem : PySem.W.findIn K (.ref c_OtherSystem) "__getattribute__" = some (some (.builtin "BaseException.__getattribute__")))
    (xg_OtherSystem : PySem.W.findIn K (.ref c_OtherSystem) "__getattr__" = some none)
    (xs_OtherSystem : PySem.W.subIn K (.ref c_OtherSystem) (.type "BaseException") = some true)
    (xd_OtherSystem : PySem.W.hasDictIn K c_OtherSystem = true)
    (mo_OtherSystem : PySem.W.mroIn K c_OtherSystem (.type "object") = some true)
    (nf_OtherSystem_deed : PySem.W.findIn K (.ref c_OtherSystem) "deed" = some none)
    (nf_OtherSystem_shown : PySem.W.findIn K (.ref c_OtherSystem) "shown" = some none)
    (nf_OtherSystem_given : PySem.W.findIn K (.ref c_OtherSystem) "given" = some none)
    (nf_OtherSystem_many : PySem.W.findIn K (.ref c_OtherSystem) "many" = some none)
    (nf_OtherSystem_limit : PySem.W.findIn K (.ref c_OtherSystem) "limit" = some none)
    (nf_OtherSystem_value : PySem.W.findIn K (.ref c_OtherSystem) "value" = some none)
    (nf_OtherSystem_index : PySem.W.findIn K (.ref c_OtherSystem) "index" = some none)
    (ox_OtherSystem : K.lookup c_OtherSystem = some (excClassObj xnm_OtherSystem xq_OtherSystem c_OtherSystem xN_OtherSystem xbs_OtherSystem xbm_OtherSystem true xsn_OtherSystem xsub_OtherSystem xab_OtherSystem xcol_OtherSystem xdd_OtherSystem xk0_OtherSystem xk1_OtherSystem xk2_OtherSystem xk3_OtherSystem xk5_OtherSystem "LookupError.__new__"))
    (rv_OtherSystem : refsT [.type "LookupError", .type "Exception", .type "BaseException", .type "object"] xbm_OtherSystem = true)
    (sa_OtherSystem : PySem.W.findIn K (.ref c_OtherSystem) "__setattr__" = some (some (.builtin "object.__setattr__")))
    (sx_OtherSystem : PySem.W.subIn K (.ref c_OtherSystem) (.type "BaseException") = some true)
    (kc_OtherSystem : PySem.W.keepIn K (.ref c_OtherSystem) = true)
    (ci_OtherNames : PySem.W.clsIn K c_OtherNames = some ccd_OtherNames)
    (cm_OtherNames : ccd_OtherNames.mro = mroL [c_OtherNames, c_QuestionError] ["LookupError", "Exception", "BaseException", "object"])
    (tp_OtherNames : PySem.W.typeIn K (.ref c_OtherNames) = some (.type "type"))
    (ha_OtherNames : PySem.W.findIn K (.ref c_OtherNames) "__class__" = some (some (.builtin "object.__class__")))
    (xa_OtherNames : PySem.W.findIn K (.ref c_OtherNames) "__getattribute__" = some (some (.builtin "BaseException.__getattribute__")))
    (xg_OtherNames : PySem.W.findIn K (.ref c_OtherNames) "__getattr__" = some none)
    (xs_OtherNames : PySem.W.subIn K (.ref c_OtherNames) (.type "BaseException") = some true)
    (xd_OtherNames : PySem.W.hasDictIn K c_OtherNames = true)
    (mo_OtherNames : PySem.W.mroIn K c_OtherNames (.type "object") = some true)
    (nf_OtherNames_deed : PySem.W.findIn K (.ref c_OtherNames) "deed" = some none)
    (nf_OtherNames_shown : PySem.W.findIn K (.ref c_OtherNames) "shown" = some none)
    (nf_OtherNames_given : PySem.W.findIn K (.ref c_OtherNames) "given" = some none)
    (nf_OtherNames_many : PySem.W.findIn K (.ref c_OtherNames) "many" = some none)
    (nf_OtherNames_limit : PySem.W.findIn K (.ref c_OtherNames) "limit" = some none)
    (nf_OtherNames_value : PySem.W.findIn K (.ref c_OtherNames) "value" = some none)
    (nf_OtherNames_index : PySem.W.findIn K (.ref c_OtherNames) "index" = some none)
    (ox_OtherNames : K.lookup c_OtherNames = some (excClassObj xnm_OtherNames xq_OtherNames c_OtherNames xN_OtherNames xbs_OtherNames xbm_OtherNames true xsn_OtherNames xsub_OtherNames xab_OtherNames xcol_OtherNames xdd_OtherNames xk0_OtherNames xk1_OtherNames xk2_OtherNames xk3_OtherNames xk5_OtherNames "LookupError.__new__"))
    (rv_OtherNames : refsT [.type "LookupError", .type "Exception", .type "BaseException", .type "object"] xbm_OtherNames = true)
    (sa_OtherNames : PySem.W.findIn K (.ref c_OtherNames) "__setattr__" = some (some (.builtin "object.__setattr__")))
    (sx_OtherNames : PySem.W.subIn K (.ref c_OtherNames) (.type "BaseException") = some true)
    (kc_OtherNames : PySem.W.keepIn K (.ref c_OtherNames) = true)
    (ci_UnknownRow : PySem.W.clsIn K c_UnknownRow = some ccd_UnknownRow)
    (cm_UnknownRow : ccd_UnknownRow.mro = mroL [c_UnknownRow, c_QuestionError] ["LookupError", "Exception", "BaseException", "object"])
    (tp_UnknownRow : PySem.W.typeIn K (.ref c_UnknownRow) = some (.type "type"))
    (ha_UnknownRow : PySem.W.findIn K (.ref c_UnknownRow) "__class__" = some (some (.builtin "object.__class__")))
    (xa_UnknownRow : PySem.W.findIn K (.ref c_UnknownRow) "__getattribute__" = some (some (.builtin "BaseException.__getattribute__")))
    (xg_UnknownRow : PySem.W.findIn K (.ref c_UnknownRow) "__getattr__" = some none)
    (xs_UnknownRow : PySem.W.subIn K (.ref c_UnknownRow) (.type "BaseException") = some true)
    (xd_UnknownRow : PySem.W.hasDictIn K c_UnknownRow = true)
    (mo_UnknownRow : PySem.W.mroIn K c_UnknownRow (.type "object") = some true)
    (nf_UnknownRow_deed : PySem.W.findIn K (.ref c_UnknownRow) "deed" = some none)
    (nf_UnknownRow_shown : PySem.W.findIn K (.ref c_UnknownRow) "shown" = some none)
    (nf_UnknownRow_given : PySem.W.findIn K (.ref c_UnknownRow) "given" = some none)
    (nf_UnknownRow_many : PySem.W.findIn K (.ref c_UnknownRow) "many" = some none)
    (nf_UnknownRow_limit : PySem.W.findIn K (.ref c_UnknownRow) "limit" = some none)
    (nf_UnknownRow_value : PySem.W.findIn K (.ref c_UnknownRow) "value" = some none)
    (nf_UnknownRow_index : PySem.W.findIn K (.ref c_UnknownRow) "index" = some none)
    (ox_UnknownRow : K.lookup c_UnknownRow = some (excClassObj xnm_UnknownRow xq_UnknownRow c_UnknownRow xN_UnknownRow xbs_UnknownRow xbm_UnknownRow true xsn_UnknownRow xsub_UnknownRow xab_UnknownRow xcol_UnknownRow xdd_UnknownRow xk0_UnknownRow xk1_UnknownRow xk2_UnknownRow xk3_UnknownRow xk5_UnknownRow "LookupError.__new__"))
    (rv_UnknownRow : refsT [.type "LookupError", .type "Exception", .type "BaseException", .type "object"] xbm_UnknownRow = true)
    (sa_UnknownRow : PySem.W.findIn K (.ref c_UnknownRow) "__setattr__" = some (some (.builtin "object.__setattr__")))
    (sx_UnknownRow : PySem.W.subIn K (.ref c_UnknownRow) (.type "BaseException") = some true)
    (kc_UnknownRow : PySem.W.keepIn K (.ref c_UnknownRow) = true)
    (ci_UnknownSaying : PySem.W.clsIn K c_UnknownSaying = some ccd_UnknownSaying)
    (cm_UnknownSaying : ccd_UnknownSaying.mro = mroL [c_UnknownSaying, c_QuestionError] ["LookupError", "Exception", "BaseException", "object"])
    (tp_UnknownSaying : PySem.W.typeIn K (.ref c_UnknownSaying) = some (.type "type"))
    (ha_UnknownSaying : PySem.W.findIn K (.ref c_UnknownSaying) "__class__" = some (some (.builtin "object.__class__")))
    (xa_UnknownSaying : PySem.W.findIn K (.ref c_UnknownSaying) "__getattribute__" = some (some (.builtin "BaseException.__getattribute__")))
    (xg_UnknownSaying : PySem.W.findIn K (.ref c_UnknownSaying) "__getattr__" = some none)
    (xs_UnknownSaying : PySem.W.subIn K (.ref c_UnknownSaying) (.type "BaseException") = some true)
    (xd_UnknownSaying : PySem.W.hasDictIn K c_UnknownSaying = true)
    (mo_UnknownSaying : PySem.W.mroIn K c_UnknownSaying (.type "object") = some true)
    (nf_UnknownSaying_deed : PySem.W.findIn K (.ref c_UnknownSaying) "deed" = some none)
    (nf_UnknownSaying_shown : PySem.W.findIn K (.ref c_UnknownSaying) "shown" = some none)
    (nf_UnknownSaying_given : PySem.W.findIn K (.ref c_UnknownSaying) "given" = some none)
    (nf_UnknownSaying_many : PySem.W.findIn K (.ref c_UnknownSaying) "many" = some none)
    (nf_UnknownSaying_limit : PySem.W.findIn K (.ref c_UnknownSaying) "limit" = some none)
    (nf_UnknownSaying_value : PySem.W.findIn K (.ref c_UnknownSaying) "value" = some none)
    (nf_UnknownSaying_index : PySem.W.findIn K (.ref c_UnknownSaying) "index" = some none)
    (ox_UnknownSaying : K.lookup c_UnknownSaying = some (excClassObj xnm_UnknownSaying xq_UnknownSaying c_UnknownSaying xN_UnknownSaying xbs_UnknownSaying xbm_UnknownSaying true xsn_UnknownSaying xsub_UnknownSaying xab_UnknownSaying xcol_UnknownSaying xdd_UnknownSaying xk0_UnknownSaying xk1_UnknownSaying xk2_UnknownSaying xk3_UnknownSaying xk5_UnknownSaying "LookupError.__new__"))
    (rv_UnknownSaying : refsT [.type "LookupError", .type "Exception", .type "BaseException", .type "object"] xbm_UnknownSaying = true)
    (sa_UnknownSaying : PySem.W.findIn K (.ref c_UnknownSaying) "__setattr__" = some (some (.builtin "object.__setattr__")))
    (sx_UnknownSaying : PySem.W.subIn K (.ref c_UnknownSaying) (.type "BaseException") = some true)
    (kc_UnknownSaying : PySem.W.keepIn K (.ref c_UnknownSaying) = true)
    (ci_Never : PySem.W.clsIn K c_Never = some ccd_Never)
    (cm_Never : ccd_Never.mro = mroL [c_Never, c_QuestionError] ["LookupError", "Exception", "BaseException", "object"])
    (tp_Never : PySem.W.typeIn K (.ref c_Never) = some (.type "type"))
    (ha_Never : PySem.W.findIn K (.ref c_Never) "__class__" = some (some (.builtin "object.__class__")))
    (xa_Never : PySem.W.findIn K (.ref c_Never) "__getattribute__" = some (some (.builtin "BaseException.__getattribute__")))
    (xg_Never : PySem.W.findIn K (.ref c_Never) "__getattr__" = some none)
    (xs_Never : PySem.W.subIn K (.ref c_Never) (.type "BaseException") = some true)
    (xd_Never : PySem.W.hasDictIn K c_Never = true)
    (mo_Never : PySem.W.mroIn K c_Never (.type "object") = some true)
    (nf_Never_deed : PySem.W.findIn K (.ref c_Never) "deed" = some none)
    (nf_Never_shown : PySem.W.findIn K (.ref c_Never) "shown" = some none)
    (nf_Never_given : PySem.W.findIn K (.ref c_Never) "given" = some none)
    (nf_Never_many : PySem.W.findIn K (.ref c_Never) "many" = some none)
    (nf_Never_limit : PySem.W.findIn K (.ref c_Never) "limit" = some none)
    (nf_Never_value : PySem.W.findIn K (.ref c_Never) "value" = some none)
    (nf_Never_index : PySem.W.findIn K (.ref c_Never) "index" = some none)
    (ci_Endless : PySem.W.clsIn K c_Endless = some ccd_Endless)
    (cm_Endless : ccd_Endless.mro = mroL [c_Endless, c_QuestionError] ["LookupError", "Exception", "BaseException", "object"])
    (tp_Endless : PySem.W.typeIn K (.ref c_Endless) = some (.type "type"))
    (ha_Endless : PySem.W.findIn K (.ref c_Endless) "__class__" = some (some (.builtin "object.__class__")))
    (xa_Endless : PySem.W.findIn K (.ref c_Endless) "__getattribute__" = some (some (.builtin "BaseException.__getattribute__")))
    (xg_Endless : PySem.W.findIn K (.ref c_Endless) "__getattr__" = some none)
    (xs_Endless : PySem.W.subIn K (.ref c_Endless) (.type "BaseException") = some true)
    (xd_Endless : PySem.W.hasDictIn K c_Endless = true)
    (mo_Endless : PySem.W.mroIn K c_Endless (.type "object") = some true)
    (nf_Endless_deed : PySem.W.findIn K (.ref c_Endless) "deed" = some none)
    (nf_Endless_shown : PySem.W.findIn K (.ref c_Endless) "shown" = some none)
    (nf_Endless_given : PySem.W.findIn K (.ref c_Endless) "given" = some none)
    (nf_Endless_many : PySem.W.findIn K (.ref c_Endless) "many" = some none)
    (nf_Endless_limit : PySem.W.findIn K (.ref c_Endless) "limit" = some none)
    (nf_Endless_value : PySem.W.findIn K (.ref c_Endless) "value" = some none)
    (nf_Endless_index : PySem.W.findIn K (.ref c_Endless) "index" = some none)
    (ci_TooFew : PySem.W.clsIn K c_TooFew = some ccd_TooFew)
    (cm_TooFew : ccd_TooFew.mro = mroL [c_TooFew, c_QuestionError] ["LookupError", "Exception", "BaseException", "object"])
    (tp_TooFew : PySem.W.typeIn K (.ref c_TooFew) = some (.type "type"))
    (ha_TooFew : PySem.W.findIn K (.ref c_TooFew) "__class__" = some (some (.builtin "object.__class__")))
    (xa_TooFew : PySem.W.findIn K (.ref c_TooFew) "__getattribute__" = some (some (.builtin "BaseException.__getattribute__")))
    (xg_TooFew : PySem.W.findIn K (.ref c_TooFew) "__getattr__" = some none)
    (xs_TooFew : PySem.W.subIn K (.ref c_TooFew) (.type "BaseException") = some true)
    (xd_TooFew : PySem.W.hasDictIn K c_TooFew = true)
    (mo_TooFew : PySem.W.mroIn K c_TooFew (.type "object") = some true)
    (nf_TooFew_deed : PySem.W.findIn K (.ref c_TooFew) "deed" = some none)
    (nf_TooFew_shown : PySem.W.findIn K (.ref c_TooFew) "shown" = some none)
    (nf_TooFew_given : PySem.W.findIn K (.ref c_TooFew) "given" = some none)
    (nf_TooFew_many : PySem.W.findIn K (.ref c_TooFew) "many" = some none)
    (nf_TooFew_limit : PySem.W.findIn K (.ref c_TooFew) "limit" = some none)
    (nf_TooFew_value : PySem.W.findIn K (.ref c_TooFew) "value" = some none)
    (nf_TooFew_index : PySem.W.findIn K (.ref c_TooFew) "index" = some none)
    (ox_TooFew : K.lookup c_TooFew = some (excClassObj xnm_TooFew xq_TooFew c_TooFew xN_TooFew xbs_TooFew xbm_TooFew true xsn_TooFew xsub_TooFew xab_TooFew xcol_TooFew xdd_TooFew xk0_TooFew xk1_TooFew xk2_TooFew xk3_TooFew xk5_TooFew "LookupError.__new__"))
    (rv_TooFew : refsT [.type "LookupError", .type "Exception", .type "BaseException", .type "object"] xbm_TooFew = true)
    (sa_TooFew : PySem.W.findIn K (.ref c_TooFew) "__setattr__" = some (some (.builtin "object.__setattr__")))
    (sx_TooFew : PySem.W.subIn K (.ref c_TooFew) (.type "BaseException") = some true)
    (kc_TooFew : PySem.W.keepIn K (.ref c_TooFew) = true)
    (ci_Busy : PySem.W.clsIn K c_Busy = some ccd_Busy)
    (cm_Busy : ccd_Busy.mro = mroL [c_Busy, c_QuestionError] ["LookupError", "Exception", "BaseException", "object"])
    (tp_Busy : PySem.W.typeIn K (.ref c_Busy) = some (.type "type"))
    (ha_Busy : PySem.W.findIn K (.ref c_Busy) "__class__" = some (some (.builtin "object.__class__")))
    (xa_Busy : PySem.W.findIn K (.ref c_Busy) "__getattribute__" = some (some (.builtin "BaseException.__getattribute__")))
    (xg_Busy : PySem.W.findIn K (.ref c_Busy) "__getattr__" = some none)
    (xs_Busy : PySem.W.subIn K (.ref c_Busy) (.type "BaseException") = some true)
    (xd_Busy : PySem.W.hasDictIn K c_Busy = true)
    (mo_Busy : PySem.W.mroIn K c_Busy (.type "object") = some true)
    (nf_Busy_deed : PySem.W.findIn K (.ref c_Busy) "deed" = some none)
    (nf_Busy_shown : PySem.W.findIn K (.ref c_Busy) "shown" = some none)
    (nf_Busy_given : PySem.W.findIn K (.ref c_Busy) "given" = some none)
    (nf_Busy_many : PySem.W.findIn K (.ref c_Busy) "many" = some none)
    (nf_Busy_limit : PySem.W.findIn K (.ref c_Busy) "limit" = some none)
    (nf_Busy_value : PySem.W.findIn K (.ref c_Busy) "value" = some none)
    (nf_Busy_index : PySem.W.findIn K (.ref c_Busy) "index" = some none)
    (ci_NothingToUndo : PySem.W.clsIn K c_NothingToUndo = some ccd_NothingToUndo)
    (cm_NothingToUndo : ccd_NothingToUndo.mro = mroL [c_NothingToUndo, c_QuestionError] ["LookupError", "Exception", "BaseException", "object"])
    (tp_NothingToUndo : PySem.W.typeIn K (.ref c_NothingToUndo) = some (.type "type"))
    (ha_NothingToUndo : PySem.W.findIn K (.ref c_NothingToUndo) "__class__" = some (some (.builtin "object.__class__")))
    (xa_NothingToUndo : PySem.W.findIn K (.ref c_NothingToUndo) "__getattribute__" = some (some (.builtin "BaseException.__getattribute__")))
    (xg_NothingToUndo : PySem.W.findIn K (.ref c_NothingToUndo) "__getattr__" = some none)
    (xs_NothingToUndo : PySem.W.subIn K (.ref c_NothingToUndo) (.type "BaseException") = some true)
    (xd_NothingToUndo : PySem.W.hasDictIn K c_NothingToUndo = true)
    (mo_NothingToUndo : PySem.W.mroIn K c_NothingToUndo (.type "object") = some true)
    (nf_NothingToUndo_deed : PySem.W.findIn K (.ref c_NothingToUndo) "deed" = some none)
    (nf_NothingToUndo_shown : PySem.W.findIn K (.ref c_NothingToUndo) "shown" = some none)
    (nf_NothingToUndo_given : PySem.W.findIn K (.ref c_NothingToUndo) "given" = some none)
    (nf_NothingToUndo_many : PySem.W.findIn K (.ref c_NothingToUndo) "many" = some none)
    (nf_NothingToUndo_limit : PySem.W.findIn K (.ref c_NothingToUndo) "limit" = some none)
    (nf_NothingToUndo_value : PySem.W.findIn K (.ref c_NothingToUndo) "value" = some none)
    (nf_NothingToUndo_index : PySem.W.findIn K (.ref c_NothingToUndo) "index" = some none)
    (ci_Refused : PySem.W.clsIn K c_Refused = some ccd_Refused)
    (cm_Refused : ccd_Refused.mro = mroL [c_Refused, c_QuestionError] ["LookupError", "Exception", "BaseException", "object"])
    (tp_Refused : PySem.W.typeIn K (.ref c_Refused) = some (.type "type"))
    (ha_Refused : PySem.W.findIn K (.ref c_Refused) "__class__" = some (some (.builtin "object.__class__")))
    (xa_Refused : PySem.W.findIn K (.ref c_Refused) "__getattribute__" = some (some (.builtin "BaseException.__getattribute__")))
    (xg_Refused : PySem.W.findIn K (.ref c_Refused) "__getattr__" = some none)
    (xs_Refused : PySem.W.subIn K (.ref c_Refused) (.type "BaseException") = some true)
    (xd_Refused : PySem.W.hasDictIn K c_Refused = true)
    (mo_Refused : PySem.W.mroIn K c_Refused (.type "object") = some true)
    (nf_Refused_deed : PySem.W.findIn K (.ref c_Refused) "deed" = some none)
    (nf_Refused_shown : PySem.W.findIn K (.ref c_Refused) "shown" = some none)
    (nf_Refused_given : PySem.W.findIn K (.ref c_Refused) "given" = some none)
    (nf_Refused_many : PySem.W.findIn K (.ref c_Refused) "many" = some none)
    (nf_Refused_limit : PySem.W.findIn K (.ref c_Refused) "limit" = some none)
    (nf_Refused_value : PySem.W.findIn K (.ref c_Refused) "value" = some none)
    (nf_Refused_index : PySem.W.findIn K (.ref c_Refused) "index" = some none)
    (ox_Refused : K.lookup c_Refused = some (excClassObj xnm_Refused xq_Refused c_Refused xN_Refused xbs_Refused xbm_Refused true xsn_Refused xsub_Refused xab_Refused xcol_Refused xdd_Refused xk0_Refused xk1_Refused xk2_Refused xk3_Refused xk5_Refused "LookupError.__new__"))
    (rv_Refused : refsT [.type "LookupError", .type "Exception", .type "BaseException", .type "object"] xbm_Refused = true)
    (sa_Refused : PySem.W.findIn K (.ref c_Refused) "__setattr__" = some (some (.builtin "object.__setattr__")))
    (sx_Refused : PySem.W.subIn K (.ref c_Refused) (.type "BaseException") = some true)
    (kc_Refused : PySem.W.keepIn K (.ref c_Refused) = true)
    (ci_SizeError : PySem.W.clsIn K c_SizeError = some ccd_SizeError)
    (cm_SizeError : ccd_SizeError.mro = mroL [c_SizeError] ["ArithmeticError", "Exception", "BaseException", "object"])
    (tp_SizeError : PySem.W.typeIn K (.ref c_SizeError) = some (.type "type"))
    (ha_SizeError : PySem.W.findIn K (.ref c_SizeError) "__class__" = some (some (.builtin "object.__class__")))
    (xa_SizeError : PySem.W.findIn K (.ref c_SizeError) "__getattribute__" = some (some (.builtin "BaseException.__getattribute__")))
    (xg_SizeError : PySem.W.findIn K (.ref c_SizeError) "__getattr__" = some none)
    (xs_SizeError : PySem.W.subIn K (.ref c_SizeError) (.type "BaseException") = some true)
    (xd_SizeError : PySem.W.hasDictIn K c_SizeError = true)
    (mo_SizeError : PySem.W.mroIn K c_SizeError (.type "object") = some true)
    (nf_SizeError_deed : PySem.W.findIn K (.ref c_SizeError) "deed" = some none)
    (nf_SizeError_shown : PySem.W.findIn K (.ref c_SizeError) "shown" = some none)
    (nf_SizeError_given : PySem.W.findIn K (.ref c_SizeError) "given" = some none)
    (nf_SizeError_many : PySem.W.findIn K (.ref c_SizeError) "many" = some none)
    (nf_SizeError_limit : PySem.W.findIn K (.ref c_SizeError) "limit" = some none)
    (nf_SizeError_value : PySem.W.findIn K (.ref c_SizeError) "value" = some none)
    (nf_SizeError_index : PySem.W.findIn K (.ref c_SizeError) "index" = some none)
    (ci_TooMany : PySem.W.clsIn K c_TooMany = some ccd_TooMany)
    (cm_TooMany : ccd_TooMany.mro = mroL [c_TooMany, c_SizeError] ["ArithmeticError", "Exception", "BaseException", "object"])
    (tp_TooMany : PySem.W.typeIn K (.ref c_TooMany) = some (.type "type"))
    (ha_TooMany : PySem.W.findIn K (.ref c_TooMany) "__class__" = some (some (.builtin "object.__class__")))
    (xa_TooMany : PySem.W.findIn K (.ref c_TooMany) "__getattribute__" = some (some (.builtin "BaseException.__getattribute__")))
    (xg_TooMany : PySem.W.findIn K (.ref c_TooMany) "__getattr__" = some none)
    (xs_TooMany : PySem.W.subIn K (.ref c_TooMany) (.type "BaseException") = some true)
    (xd_TooMany : PySem.W.hasDictIn K c_TooMany = true)
    (mo_TooMany : PySem.W.mroIn K c_TooMany (.type "object") = some true)
    (nf_TooMany_deed : PySem.W.findIn K (.ref c_TooMany) "deed" = some none)
    (nf_TooMany_shown : PySem.W.findIn K (.ref c_TooMany) "shown" = some none)
    (nf_TooMany_given : PySem.W.findIn K (.ref c_TooMany) "given" = some none)
    (nf_TooMany_many : PySem.W.findIn K (.ref c_TooMany) "many" = some none)
    (nf_TooMany_limit : PySem.W.findIn K (.ref c_TooMany) "limit" = some none)
    (nf_TooMany_value : PySem.W.findIn K (.ref c_TooMany) "value" = some none)
    (nf_TooMany_index : PySem.W.findIn K (.ref c_TooMany) "index" = some none)
    (ox_TooMany : K.lookup c_TooMany = some (excClassObj xnm_TooMany xq_TooMany c_TooMany xN_TooMany xbs_TooMany xbm_TooMany true xsn_TooMany xsub_TooMany xab_TooMany xcol_TooMany xdd_TooMany xk0_TooMany xk1_TooMany xk2_TooMany xk3_TooMany xk5_TooMany "ArithmeticError.__new__"))
    (rv_TooMany : refsT [.type "ArithmeticError", .type "Exception", .type "BaseException", .type "object"] xbm_TooMany = true)
    (sa_TooMany : PySem.W.findIn K (.ref c_TooMany) "__setattr__" = some (some (.builtin "object.__setattr__")))
    (sx_TooMany : PySem.W.subIn K (.ref c_TooMany) (.type "BaseException") = some true)
    (kc_TooMany : PySem.W.keepIn K (.ref c_TooMany) = true)
    (x0_Never : PySem.W.excIn K c_Never [.type "LookupError", .type "Exception", .type "BaseException", .type "object"] "LookupError.__new__" = true)
    (kx_Never : PySem.W.keepIn K (.ref c_Never) = true)
    (x0_Endless : PySem.W.excIn K c_Endless [.type "LookupError", .type "Exception", .type "BaseException", .type "object"] "LookupError.__new__" = true)
    (kx_Endless : PySem.W.keepIn K (.ref c_Endless) = true)
    (x0_Busy : PySem.W.excIn K c_Busy [.type "LookupError", .type "Exception", .type "BaseException", .type "object"] "LookupError.__new__" = true)
    (kx_Busy : PySem.W.keepIn K (.ref c_Busy) = true)
    (x0_NothingToUndo : PySem.W.excIn K c_NothingToUndo [.type "LookupError", .type "Exception", .type "BaseException", .type "object"] "LookupError.__new__" = true)
    (kx_NothingToUndo : PySem.W.keepIn K (.ref c_NothingToUndo) = true)
    (ndp : [c_ShapeError, c_InvalidStep, c_InvalidNumber, c_InvalidNumbers, c_InvalidDigits, c_InvalidMoves, c_InvalidSigns, c_InvalidRule, c_InvalidName, c_InvalidWish, c_InvalidText, c_InvalidRows, c_InvalidSayings, c_InvalidGood, c_InvalidGuards, c_InvalidDeed, c_InvalidLine, c_NotASystem, c_NotARow, c_NotAWish, c_NotABook, c_NotAMachine, c_QuestionError, c_OtherSystem, c_OtherNames, c_UnknownRow, c_UnknownSaying, c_Never, c_Endless, c_TooFew, c_Busy, c_NothingToUndo, c_Refused, c_SizeError, c_TooMany].Nodup)
    (oc_hn : PySem.W.specialIn K (.builtin "object.__class__") "__get__" = some (some (.builtin "getset_descriptor.__get__")))
    (oc_tk : PySem.W.takesIn K (.builtin "object.__class__") = some true)
    (z_ArithmeticError : PySem.W.nsIn K mainGlobals "ArithmeticError" = some none)
    (z_LookupError : PySem.W.nsIn K mainGlobals "LookupError" = some none)
    (z_ValueError : PySem.W.nsIn K mainGlobals "ValueError" = some none)
    (z_abs : PySem.W.nsIn K mainGlobals "abs" = some none)
    (z_all : PySem.W.nsIn K mainGlobals "all" = some none)
    (z_int : PySem.W.nsIn K mainGlobals "int" = some none)
    (z_isinstance : PySem.W.nsIn K mainGlobals "isinstance" = some none)
    (z_len : PySem.W.nsIn K mainGlobals "len" = some none)
    (z_max : PySem.W.nsIn K mainGlobals "max" = some none)
    (z_min : PySem.W.nsIn K mainGlobals "min" = some none)
    (z_range : PySem.W.nsIn K mainGlobals "range" = some none)
    (z_repr : PySem.W.nsIn K mainGlobals "repr" = some none)
    (v_MOST_CONSTANT : PySem.W.nsIn K mainGlobals "MOST_CONSTANT" = some (some (.int 20 t_MOST_CONSTANT)))
    (v_MOST_DEEDS : PySem.W.nsIn K mainGlobals "MOST_DEEDS" = some (some (.int 100 t_MOST_DEEDS)))
    (v_MOST_DEPTH : PySem.W.nsIn K mainGlobals "MOST_DEPTH" = some (some (.int 8 t_MOST_DEPTH)))
    (v_MOST_LENGTH : PySem.W.nsIn K mainGlobals "MOST_LENGTH" = some (some (.int 2000 t_MOST_LENGTH)))
    (v_MOST_MACHINE : PySem.W.nsIn K mainGlobals "MOST_MACHINE" = some (some (.int 10000 t_MOST_MACHINE)))
    (v_MOST_NAMES : PySem.W.nsIn K mainGlobals "MOST_NAMES" = some (some (.int 4 t_MOST_NAMES)))
    (v_MOST_NUMBER : PySem.W.nsIn K mainGlobals "MOST_NUMBER" = some (some (.int 10000000000000000000000000000000000000000 t_MOST_NUMBER)))
    (v_MOST_PARTS : PySem.W.nsIn K mainGlobals "MOST_PARTS" = some (some (.int 60 t_MOST_PARTS)))
    (v_MOST_ROWS : PySem.W.nsIn K mainGlobals "MOST_ROWS" = some (some (.int 4 t_MOST_ROWS)))
    (v_MOST_SAYINGS : PySem.W.nsIn K mainGlobals "MOST_SAYINGS" = some (some (.int 12 t_MOST_SAYINGS)))
    (v_MOST_STANDS : PySem.W.nsIn K mainGlobals "MOST_STANDS" = some (some (.int 8 t_MOST_STANDS)))
    (v_MOST_STEP : PySem.W.nsIn K mainGlobals "MOST_STEP" = some (some (.int 3 t_MOST_STEP)))
    (v_MOST_TERM : PySem.W.nsIn K mainGlobals "MOST_TERM" = some (some (.int 4 t_MOST_TERM)))
    (v_MOST_WISHES : PySem.W.nsIn K mainGlobals "MOST_WISHES" = some (some (.int 6 t_MOST_WISHES))) :
    ∃ fd : FuncData, (∀ (s : Shared) (v : Value), BindsTo s fd ⟨[v], []⟩ [("_law_cells", v)]) ∧ ∀ base : Heap, K.In base → base.Ns mainGlobals mg → FnG l.prog w K mg base (L2.CX l.prog w) 5 fa fd ["_law_cells"] (@spOf (noTbl w) K 1 sLawD) := by
  have e := hfa.symm.trans (PySem.W.mg_of X G a_law)
  cases e
  letI : Tbl := ⟨[], [], w⟩
  have hne := ndp
  have F_Refused_init := fun_mk (st := s_Refused_init) l_Refused_init c_Refused_init k_Refused_init
  have b_Refused_init := F_Refused_init.binds (ps := ["self", "deed", "shown"]) fun _ _ _ _ _ _ us hl => match us, hl with | [_, _, _], _ => rfl
  have F_OtherSystem_init := fun_mk (st := s_OtherSystem_init) l_OtherSystem_init c_OtherSystem_init k_OtherSystem_init
  have b_OtherSystem_init := F_OtherSystem_init.binds (ps := ["self", "given"]) fun _ _ _ _ _ _ us hl => match us, hl with | [_, _], _ => rfl
  have F_OtherNames_init := fun_mk (st := s_OtherNames_init) l_OtherNames_init c_OtherNames_init k_OtherNames_init
  have b_OtherNames_init := F_OtherNames_init.binds (ps := ["self", "given"]) fun _ _ _ _ _ _ us hl => match us, hl with | [_, _], _ => rfl
  have F_TooFew_init := fun_mk (st := s_TooFew_init) l_TooFew_init c_TooFew_init k_TooFew_init
  have b_TooFew_init := F_TooFew_init.binds (ps := ["self", "many"]) fun _ _ _ _ _ _ us hl => match us, hl with | [_, _], _ => rfl
  have F_TooMany_init := fun_mk (st := s_TooMany_init) l_TooMany_init c_TooMany_init k_TooMany_init
  have b_TooMany_init := F_TooMany_init.binds (ps := ["self", "limit"]) fun _ _ _ _ _ _ us hl => match us, hl with | [_, _], _ => rfl
  have F_law_classes := fun_mk (st := s_law_classes) l_law_classes c_law_classes k_law_classes
  have b_law_classes := F_law_classes.binds (ps := ["_law_e"]) fun _ _ _ _ _ _ us hl => match us, hl with | [_], _ => rfl
  have F_law_is := fun_mk (st := s_law_is) l_law_is c_law_is k_law_is
  have b_law_is := F_law_is.binds (ps := ["_law_e", "_law_at"]) fun _ _ _ _ _ _ us hl => match us, hl with | [_, _], _ => rfl
  have F_law_others_right := fun_mk (st := s_law_others_right) l_law_others_right c_law_others_right k_law_others_right
  have b_law_others_right := F_law_others_right.binds (ps := ["_law_thing", "_law_mate"]) fun _ _ _ _ _ _ us hl => match us, hl with | [_, _], _ => rfl
  have F_law_draw := fun_mk (st := s_law_draw) l_law_draw c_law_draw k_law_draw
  have b_law_draw := F_law_draw.binds (ps := ["_law_bag_here", "_law_wide"]) fun _ _ _ _ _ _ us hl => match us, hl with | [_, _], _ => rfl
  have F_law_one := fun_mk (st := s_law_one) l_law_one c_law_one k_law_one
  have b_law_one := F_law_one.binds (ps := ["_law_bag_here", "_law_some"]) fun _ _ _ _ _ _ us hl => match us, hl with | [_, _], _ => rfl
  have F_InvalidStep_init := fun_mk (st := s_InvalidStep_init) l_InvalidStep_init c_InvalidStep_init k_InvalidStep_init
  have b_InvalidStep_init := F_InvalidStep_init.binds (ps := ["self", "value"]) fun _ _ _ _ _ _ us hl => match us, hl with | [_, _], _ => rfl
  have F_InvalidNumber_init := fun_mk (st := s_InvalidNumber_init) l_InvalidNumber_init c_InvalidNumber_init k_InvalidNumber_init
  have b_InvalidNumber_init := F_InvalidNumber_init.binds (ps := ["self", "value"]) fun _ _ _ _ _ _ us hl => match us, hl with | [_, _], _ => rfl
  have F_InvalidNumbers_init := fun_mk (st := s_InvalidNumbers_init) l_InvalidNumbers_init c_InvalidNumbers_init k_InvalidNumbers_init
  have b_InvalidNumbers_init := F_InvalidNumbers_init.binds (ps := ["self", "value"]) fun _ _ _ _ _ _ us hl => match us, hl with | [_, _], _ => rfl
  have F_InvalidDigits_init := fun_mk (st := s_InvalidDigits_init) l_InvalidDigits_init c_InvalidDigits_init k_InvalidDigits_init
  have b_InvalidDigits_init := F_InvalidDigits_init.binds (ps := ["self", "value"]) fun _ _ _ _ _ _ us hl => match us, hl with | [_, _], _ => rfl
  have F_InvalidMoves_init := fun_mk (st := s_InvalidMoves_init) l_InvalidMoves_init c_InvalidMoves_init k_InvalidMoves_init
  have b_InvalidMoves_init := F_InvalidMoves_init.binds (ps := ["self", "value"]) fun _ _ _ _ _ _ us hl => match us, hl with | [_, _], _ => rfl
  have F_InvalidSigns_init := fun_mk (st := s_InvalidSigns_init) l_InvalidSigns_init c_InvalidSigns_init k_InvalidSigns_init
  have b_InvalidSigns_init := F_InvalidSigns_init.binds (ps := ["self", "value"]) fun _ _ _ _ _ _ us hl => match us, hl with | [_, _], _ => rfl
  have F_InvalidName_init := fun_mk (st := s_InvalidName_init) l_InvalidName_init c_InvalidName_init k_InvalidName_init
  have b_InvalidName_init := F_InvalidName_init.binds (ps := ["self", "value"]) fun _ _ _ _ _ _ us hl => match us, hl with | [_, _], _ => rfl
  have F_InvalidWish_init := fun_mk (st := s_InvalidWish_init) l_InvalidWish_init c_InvalidWish_init k_InvalidWish_init
  have b_InvalidWish_init := F_InvalidWish_init.binds (ps := ["self", "value"]) fun _ _ _ _ _ _ us hl => match us, hl with | [_, _], _ => rfl
  have F_InvalidText_init := fun_mk (st := s_InvalidText_init) l_InvalidText_init c_InvalidText_init k_InvalidText_init
  have b_InvalidText_init := F_InvalidText_init.binds (ps := ["self", "value"]) fun _ _ _ _ _ _ us hl => match us, hl with | [_, _], _ => rfl
  have F_InvalidGood_init := fun_mk (st := s_InvalidGood_init) l_InvalidGood_init c_InvalidGood_init k_InvalidGood_init
  have b_InvalidGood_init := F_InvalidGood_init.binds (ps := ["self", "value"]) fun _ _ _ _ _ _ us hl => match us, hl with | [_, _], _ => rfl
  have F_InvalidLine_init := fun_mk (st := s_InvalidLine_init) l_InvalidLine_init c_InvalidLine_init k_InvalidLine_init
  have b_InvalidLine_init := F_InvalidLine_init.binds (ps := ["self", "value"]) fun _ _ _ _ _ _ us hl => match us, hl with | [_, _], _ => rfl
  have F_NotASystem_init := fun_mk (st := s_NotASystem_init) l_NotASystem_init c_NotASystem_init k_NotASystem_init
  have b_NotASystem_init := F_NotASystem_init.binds (ps := ["self", "value"]) fun _ _ _ _ _ _ us hl => match us, hl with | [_, _], _ => rfl
  have F_NotARow_init := fun_mk (st := s_NotARow_init) l_NotARow_init c_NotARow_init k_NotARow_init
  have b_NotARow_init := F_NotARow_init.binds (ps := ["self", "value"]) fun _ _ _ _ _ _ us hl => match us, hl with | [_, _], _ => rfl
  have F_NotAWish_init := fun_mk (st := s_NotAWish_init) l_NotAWish_init c_NotAWish_init k_NotAWish_init
  have b_NotAWish_init := F_NotAWish_init.binds (ps := ["self", "value"]) fun _ _ _ _ _ _ us hl => match us, hl with | [_, _], _ => rfl
  have F_NotABook_init := fun_mk (st := s_NotABook_init) l_NotABook_init c_NotABook_init k_NotABook_init
  have b_NotABook_init := F_NotABook_init.binds (ps := ["self", "value"]) fun _ _ _ _ _ _ us hl => match us, hl with | [_, _], _ => rfl
  have F_NotAMachine_init := fun_mk (st := s_NotAMachine_init) l_NotAMachine_init c_NotAMachine_init k_NotAMachine_init
  have b_NotAMachine_init := F_NotAMachine_init.binds (ps := ["self", "value"]) fun _ _ _ _ _ _ us hl => match us, hl with | [_, _], _ => rfl
  have F_UnknownRow_init := fun_mk (st := s_UnknownRow_init) l_UnknownRow_init c_UnknownRow_init k_UnknownRow_init
  have b_UnknownRow_init := F_UnknownRow_init.binds (ps := ["self", "value"]) fun _ _ _ _ _ _ us hl => match us, hl with | [_, _], _ => rfl
  have F_UnknownSaying_init := fun_mk (st := s_UnknownSaying_init) l_UnknownSaying_init c_UnknownSaying_init k_UnknownSaying_init
  have b_UnknownSaying_init := F_UnknownSaying_init.binds (ps := ["self", "value"]) fun _ _ _ _ _ _ us hl => match us, hl with | [_, _], _ => rfl
  have F_law_values := fun_mk (st := s_law_values) l_law_values c_law_values k_law_values
  have b_law_values := F_law_values.binds (ps := ["_law_thing"]) fun _ _ _ _ _ _ us hl => match us, hl with | [_], _ => rfl
  have F_InvalidRule_init := fun_mk (st := s_InvalidRule_init) l_InvalidRule_init c_InvalidRule_init k_InvalidRule_init
  have b_InvalidRule_init := F_InvalidRule_init.binds (ps := ["self", "index"]) fun _ _ _ _ _ _ us hl => match us, hl with | [_, _], _ => rfl
  have F_InvalidRows_init := fun_mk (st := s_InvalidRows_init) l_InvalidRows_init c_InvalidRows_init k_InvalidRows_init
  have b_InvalidRows_init := F_InvalidRows_init.binds (ps := ["self", "index"]) fun _ _ _ _ _ _ us hl => match us, hl with | [_, _], _ => rfl
  have F_InvalidSayings_init := fun_mk (st := s_InvalidSayings_init) l_InvalidSayings_init c_InvalidSayings_init k_InvalidSayings_init
  have b_InvalidSayings_init := F_InvalidSayings_init.binds (ps := ["self", "index"]) fun _ _ _ _ _ _ us hl => match us, hl with | [_, _], _ => rfl
  have F_InvalidGuards_init := fun_mk (st := s_InvalidGuards_init) l_InvalidGuards_init c_InvalidGuards_init k_InvalidGuards_init
  have b_InvalidGuards_init := F_InvalidGuards_init.binds (ps := ["self", "index"]) fun _ _ _ _ _ _ us hl => match us, hl with | [_, _], _ => rfl
  have F_InvalidDeed_init := fun_mk (st := s_InvalidDeed_init) l_InvalidDeed_init c_InvalidDeed_init k_InvalidDeed_init
  have b_InvalidDeed_init := F_InvalidDeed_init.binds (ps := ["self", "index"]) fun _ _ _ _ _ _ us hl => match us, hl with | [_, _], _ => rfl
  have F_law_indexes := fun_mk (st := s_law_indexes) l_law_indexes c_law_indexes k_law_indexes
  have b_law_indexes := F_law_indexes.binds (ps := ["_law_thing"]) fun _ _ _ _ _ _ us hl => match us, hl with | [_], _ => rfl
  have F_law_right := fun_mk (st := s_law_right) l_law_right c_law_right k_law_right
  have b_law_right := F_law_right.binds (ps := ["_law_bag_here"]) fun _ _ _ _ _ _ us hl => match us, hl with | [_], _ => rfl
  have F_law_bag := fun_mk (st := s_law_bag) l_law_bag c_law_bag k_law_bag
  have b_law_bag := F_law_bag.binds (ps := ["_law_cells", "_law_k"]) fun _ _ _ _ _ _ us hl => match us, hl with | [_, _], _ => rfl
  have F_law := fun_mk (st := s_law) l_law c_law k_law
  have b_law := F_law.binds (ps := ["_law_cells"]) fun _ _ _ _ _ _ us hl => match us, hl with | [_], _ => rfl
  have kb_Refused_init_1_shown_deed := kb_perm (ps := ["self", "deed", "shown"]) F_Refused_init 1 ["shown", "deed"] [1, 0] fun _ _ _ _ _ _ us ws h1 h2 => match us, ws, h1, h2 with | [_], [_, _], _, _ => rfl
  have kb_OtherSystem_init_1_given := kb_perm (ps := ["self", "given"]) F_OtherSystem_init 1 ["given"] [0] fun _ _ _ _ _ _ us ws h1 h2 => match us, ws, h1, h2 with | [_], [_], _, _ => rfl
  have kb_OtherNames_init_1_given := kb_perm (ps := ["self", "given"]) F_OtherNames_init 1 ["given"] [0] fun _ _ _ _ _ _ us ws h1 h2 => match us, ws, h1, h2 with | [_], [_], _, _ => rfl
  have kb_TooFew_init_1_many := kb_perm (ps := ["self", "many"]) F_TooFew_init 1 ["many"] [0] fun _ _ _ _ _ _ us ws h1 h2 => match us, ws, h1, h2 with | [_], [_], _, _ => rfl
  have kb_TooMany_init_1_limit := kb_perm (ps := ["self", "limit"]) F_TooMany_init 1 ["limit"] [0] fun _ _ _ _ _ _ us ws h1 h2 => match us, ws, h1, h2 with | [_], [_], _, _ => rfl
  have kb_InvalidStep_init_1_value := kb_perm (ps := ["self", "value"]) F_InvalidStep_init 1 ["value"] [0] fun _ _ _ _ _ _ us ws h1 h2 => match us, ws, h1, h2 with | [_], [_], _, _ => rfl
  have kb_InvalidNumber_init_1_value := kb_perm (ps := ["self", "value"]) F_InvalidNumber_init 1 ["value"] [0] fun _ _ _ _ _ _ us ws h1 h2 => match us, ws, h1, h2 with | [_], [_], _, _ => rfl
  have kb_InvalidNumbers_init_1_value := kb_perm (ps := ["self", "value"]) F_InvalidNumbers_init 1 ["value"] [0] fun _ _ _ _ _ _ us ws h1 h2 => match us, ws, h1, h2 with | [_], [_], _, _ => rfl
  have kb_InvalidDigits_init_1_value := kb_perm (ps := ["self", "value"]) F_InvalidDigits_init 1 ["value"] [0] fun _ _ _ _ _ _ us ws h1 h2 => match us, ws, h1, h2 with | [_], [_], _, _ => rfl
  have kb_InvalidMoves_init_1_value := kb_perm (ps := ["self", "value"]) F_InvalidMoves_init 1 ["value"] [0] fun _ _ _ _ _ _ us ws h1 h2 => match us, ws, h1, h2 with | [_], [_], _, _ => rfl
  have kb_InvalidSigns_init_1_value := kb_perm (ps := ["self", "value"]) F_InvalidSigns_init 1 ["value"] [0] fun _ _ _ _ _ _ us ws h1 h2 => match us, ws, h1, h2 with | [_], [_], _, _ => rfl
  have kb_InvalidName_init_1_value := kb_perm (ps := ["self", "value"]) F_InvalidName_init 1 ["value"] [0] fun _ _ _ _ _ _ us ws h1 h2 => match us, ws, h1, h2 with | [_], [_], _, _ => rfl
  have kb_InvalidWish_init_1_value := kb_perm (ps := ["self", "value"]) F_InvalidWish_init 1 ["value"] [0] fun _ _ _ _ _ _ us ws h1 h2 => match us, ws, h1, h2 with | [_], [_], _, _ => rfl
  have kb_InvalidText_init_1_value := kb_perm (ps := ["self", "value"]) F_InvalidText_init 1 ["value"] [0] fun _ _ _ _ _ _ us ws h1 h2 => match us, ws, h1, h2 with | [_], [_], _, _ => rfl
  have kb_InvalidGood_init_1_value := kb_perm (ps := ["self", "value"]) F_InvalidGood_init 1 ["value"] [0] fun _ _ _ _ _ _ us ws h1 h2 => match us, ws, h1, h2 with | [_], [_], _, _ => rfl
  have kb_InvalidLine_init_1_value := kb_perm (ps := ["self", "value"]) F_InvalidLine_init 1 ["value"] [0] fun _ _ _ _ _ _ us ws h1 h2 => match us, ws, h1, h2 with | [_], [_], _, _ => rfl
  have kb_NotASystem_init_1_value := kb_perm (ps := ["self", "value"]) F_NotASystem_init 1 ["value"] [0] fun _ _ _ _ _ _ us ws h1 h2 => match us, ws, h1, h2 with | [_], [_], _, _ => rfl
  have kb_NotARow_init_1_value := kb_perm (ps := ["self", "value"]) F_NotARow_init 1 ["value"] [0] fun _ _ _ _ _ _ us ws h1 h2 => match us, ws, h1, h2 with | [_], [_], _, _ => rfl
  have kb_NotAWish_init_1_value := kb_perm (ps := ["self", "value"]) F_NotAWish_init 1 ["value"] [0] fun _ _ _ _ _ _ us ws h1 h2 => match us, ws, h1, h2 with | [_], [_], _, _ => rfl
  have kb_NotABook_init_1_value := kb_perm (ps := ["self", "value"]) F_NotABook_init 1 ["value"] [0] fun _ _ _ _ _ _ us ws h1 h2 => match us, ws, h1, h2 with | [_], [_], _, _ => rfl
  have kb_NotAMachine_init_1_value := kb_perm (ps := ["self", "value"]) F_NotAMachine_init 1 ["value"] [0] fun _ _ _ _ _ _ us ws h1 h2 => match us, ws, h1, h2 with | [_], [_], _, _ => rfl
  have kb_UnknownRow_init_1_value := kb_perm (ps := ["self", "value"]) F_UnknownRow_init 1 ["value"] [0] fun _ _ _ _ _ _ us ws h1 h2 => match us, ws, h1, h2 with | [_], [_], _, _ => rfl
  have kb_UnknownSaying_init_1_value := kb_perm (ps := ["self", "value"]) F_UnknownSaying_init 1 ["value"] [0] fun _ _ _ _ _ _ us ws h1 h2 => match us, ws, h1, h2 with | [_], [_], _, _ => rfl
  have kb_InvalidRule_init_1_index := kb_perm (ps := ["self", "index"]) F_InvalidRule_init 1 ["index"] [0] fun _ _ _ _ _ _ us ws h1 h2 => match us, ws, h1, h2 with | [_], [_], _, _ => rfl
  have kb_InvalidRows_init_1_index := kb_perm (ps := ["self", "index"]) F_InvalidRows_init 1 ["index"] [0] fun _ _ _ _ _ _ us ws h1 h2 => match us, ws, h1, h2 with | [_], [_], _, _ => rfl
  have kb_InvalidSayings_init_1_index := kb_perm (ps := ["self", "index"]) F_InvalidSayings_init 1 ["index"] [0] fun _ _ _ _ _ _ us ws h1 h2 => match us, ws, h1, h2 with | [_], [_], _, _ => rfl
  have kb_InvalidGuards_init_1_index := kb_perm (ps := ["self", "index"]) F_InvalidGuards_init 1 ["index"] [0] fun _ _ _ _ _ _ us ws h1 h2 => match us, ws, h1, h2 with | [_], [_], _, _ => rfl
  have kb_InvalidDeed_init_1_index := kb_perm (ps := ["self", "index"]) F_InvalidDeed_init 1 ["index"] [0] fun _ _ _ _ _ _ us ws h1 h2 => match us, ws, h1, h2 with | [_], [_], _, _ => rfl
  have ty : TyOk K (cdOf []) := tyOk_of fun p hp => by
    cases hp
  have om_ShapeError : OwnM K c_ShapeError [c_ShapeError] ["ValueError", "Exception", "BaseException", "object"] := ⟨⟨_, ci_ShapeError, cm_ShapeError⟩, rfl, by decide, by decide, tp_ShapeError⟩
  have om_InvalidStep : OwnM K c_InvalidStep [c_InvalidStep, c_ShapeError] ["ValueError", "Exception", "BaseException", "object"] := ⟨⟨_, ci_InvalidStep, cm_InvalidStep⟩, rfl, by decide, by decide, tp_InvalidStep⟩
  have om_InvalidNumber : OwnM K c_InvalidNumber [c_InvalidNumber, c_ShapeError] ["ValueError", "Exception", "BaseException", "object"] := ⟨⟨_, ci_InvalidNumber, cm_InvalidNumber⟩, rfl, by decide, by decide, tp_InvalidNumber⟩
  have om_InvalidNumbers : OwnM K c_InvalidNumbers [c_InvalidNumbers, c_ShapeError] ["ValueError", "Exception", "BaseException", "object"] := ⟨⟨_, ci_InvalidNumbers, cm_InvalidNumbers⟩, rfl, by decide, by decide, tp_InvalidNumbers⟩
  have om_InvalidDigits : OwnM K c_InvalidDigits [c_InvalidDigits, c_ShapeError] ["ValueError", "Exception", "BaseException", "object"] := ⟨⟨_, ci_InvalidDigits, cm_InvalidDigits⟩, rfl, by decide, by decide, tp_InvalidDigits⟩
  have om_InvalidMoves : OwnM K c_InvalidMoves [c_InvalidMoves, c_ShapeError] ["ValueError", "Exception", "BaseException", "object"] := ⟨⟨_, ci_InvalidMoves, cm_InvalidMoves⟩, rfl, by decide, by decide, tp_InvalidMoves⟩
  have om_InvalidSigns : OwnM K c_InvalidSigns [c_InvalidSigns, c_ShapeError] ["ValueError", "Exception", "BaseException", "object"] := ⟨⟨_, ci_InvalidSigns, cm_InvalidSigns⟩, rfl, by decide, by decide, tp_InvalidSigns⟩
  have om_InvalidRule : OwnM K c_InvalidRule [c_InvalidRule, c_ShapeError] ["ValueError", "Exception", "BaseException", "object"] := ⟨⟨_, ci_InvalidRule, cm_InvalidRule⟩, rfl, by decide, by decide, tp_InvalidRule⟩
  have om_InvalidName : OwnM K c_InvalidName [c_InvalidName, c_ShapeError] ["ValueError", "Exception", "BaseException", "object"] := ⟨⟨_, ci_InvalidName, cm_InvalidName⟩, rfl, by decide, by decide, tp_InvalidName⟩
  have om_InvalidWish : OwnM K c_InvalidWish [c_InvalidWish, c_ShapeError] ["ValueError", "Exception", "BaseException", "object"] := ⟨⟨_, ci_InvalidWish, cm_InvalidWish⟩, rfl, by decide, by decide, tp_InvalidWish⟩
  have om_InvalidText : OwnM K c_InvalidText [c_InvalidText, c_ShapeError] ["ValueError", "Exception", "BaseException", "object"] := ⟨⟨_, ci_InvalidText, cm_InvalidText⟩, rfl, by decide, by decide, tp_InvalidText⟩
  have om_InvalidRows : OwnM K c_InvalidRows [c_InvalidRows, c_ShapeError] ["ValueError", "Exception", "BaseException", "object"] := ⟨⟨_, ci_InvalidRows, cm_InvalidRows⟩, rfl, by decide, by decide, tp_InvalidRows⟩
  have om_InvalidSayings : OwnM K c_InvalidSayings [c_InvalidSayings, c_ShapeError] ["ValueError", "Exception", "BaseException", "object"] := ⟨⟨_, ci_InvalidSayings, cm_InvalidSayings⟩, rfl, by decide, by decide, tp_InvalidSayings⟩
  have om_InvalidGood : OwnM K c_InvalidGood [c_InvalidGood, c_ShapeError] ["ValueError", "Exception", "BaseException", "object"] := ⟨⟨_, ci_InvalidGood, cm_InvalidGood⟩, rfl, by decide, by decide, tp_InvalidGood⟩
  have om_InvalidGuards : OwnM K c_InvalidGuards [c_InvalidGuards, c_ShapeError] ["ValueError", "Exception", "BaseException", "object"] := ⟨⟨_, ci_InvalidGuards, cm_InvalidGuards⟩, rfl, by decide, by decide, tp_InvalidGuards⟩
  have om_InvalidDeed : OwnM K c_InvalidDeed [c_InvalidDeed, c_ShapeError] ["ValueError", "Exception", "BaseException", "object"] := ⟨⟨_, ci_InvalidDeed, cm_InvalidDeed⟩, rfl, by decide, by decide, tp_InvalidDeed⟩
  have om_InvalidLine : OwnM K c_InvalidLine [c_InvalidLine, c_ShapeError] ["ValueError", "Exception", "BaseException", "object"] := ⟨⟨_, ci_InvalidLine, cm_InvalidLine⟩, rfl, by decide, by decide, tp_InvalidLine⟩
  have om_NotASystem : OwnM K c_NotASystem [c_NotASystem, c_ShapeError] ["ValueError", "Exception", "BaseException", "object"] := ⟨⟨_, ci_NotASystem, cm_NotASystem⟩, rfl, by decide, by decide, tp_NotASystem⟩
  have om_NotARow : OwnM K c_NotARow [c_NotARow, c_ShapeError] ["ValueError", "Exception", "BaseException", "object"] := ⟨⟨_, ci_NotARow, cm_NotARow⟩, rfl, by decide, by decide, tp_NotARow⟩
  have om_NotAWish : OwnM K c_NotAWish [c_NotAWish, c_ShapeError] ["ValueError", "Exception", "BaseException", "object"] := ⟨⟨_, ci_NotAWish, cm_NotAWish⟩, rfl, by decide, by decide, tp_NotAWish⟩
  have om_NotABook : OwnM K c_NotABook [c_NotABook, c_ShapeError] ["ValueError", "Exception", "BaseException", "object"] := ⟨⟨_, ci_NotABook, cm_NotABook⟩, rfl, by decide, by decide, tp_NotABook⟩
  have om_NotAMachine : OwnM K c_NotAMachine [c_NotAMachine, c_ShapeError] ["ValueError", "Exception", "BaseException", "object"] := ⟨⟨_, ci_NotAMachine, cm_NotAMachine⟩, rfl, by decide, by decide, tp_NotAMachine⟩
  have om_QuestionError : OwnM K c_QuestionError [c_QuestionError] ["LookupError", "Exception", "BaseException", "object"] := ⟨⟨_, ci_QuestionError, cm_QuestionError⟩, rfl, by decide, by decide, tp_QuestionError⟩
  have om_OtherSystem : OwnM K c_OtherSystem [c_OtherSystem, c_QuestionError] ["LookupError", "Exception", "BaseException", "object"] := ⟨⟨_, ci_OtherSystem, cm_OtherSystem⟩, rfl, by decide, by decide, tp_OtherSystem⟩
  have om_OtherNames : OwnM K c_OtherNames [c_OtherNames, c_QuestionError] ["LookupError", "Exception", "BaseException", "object"] := ⟨⟨_, ci_OtherNames, cm_OtherNames⟩, rfl, by decide, by decide, tp_OtherNames⟩
  have om_UnknownRow : OwnM K c_UnknownRow [c_UnknownRow, c_QuestionError] ["LookupError", "Exception", "BaseException", "object"] := ⟨⟨_, ci_UnknownRow, cm_UnknownRow⟩, rfl, by decide, by decide, tp_UnknownRow⟩
  have om_UnknownSaying : OwnM K c_UnknownSaying [c_UnknownSaying, c_QuestionError] ["LookupError", "Exception", "BaseException", "object"] := ⟨⟨_, ci_UnknownSaying, cm_UnknownSaying⟩, rfl, by decide, by decide, tp_UnknownSaying⟩
  have om_Never : OwnM K c_Never [c_Never, c_QuestionError] ["LookupError", "Exception", "BaseException", "object"] := ⟨⟨_, ci_Never, cm_Never⟩, rfl, by decide, by decide, tp_Never⟩
  have om_Endless : OwnM K c_Endless [c_Endless, c_QuestionError] ["LookupError", "Exception", "BaseException", "object"] := ⟨⟨_, ci_Endless, cm_Endless⟩, rfl, by decide, by decide, tp_Endless⟩
  have om_TooFew : OwnM K c_TooFew [c_TooFew, c_QuestionError] ["LookupError", "Exception", "BaseException", "object"] := ⟨⟨_, ci_TooFew, cm_TooFew⟩, rfl, by decide, by decide, tp_TooFew⟩
  have om_Busy : OwnM K c_Busy [c_Busy, c_QuestionError] ["LookupError", "Exception", "BaseException", "object"] := ⟨⟨_, ci_Busy, cm_Busy⟩, rfl, by decide, by decide, tp_Busy⟩
  have om_NothingToUndo : OwnM K c_NothingToUndo [c_NothingToUndo, c_QuestionError] ["LookupError", "Exception", "BaseException", "object"] := ⟨⟨_, ci_NothingToUndo, cm_NothingToUndo⟩, rfl, by decide, by decide, tp_NothingToUndo⟩
  have om_Refused : OwnM K c_Refused [c_Refused, c_QuestionError] ["LookupError", "Exception", "BaseException", "object"] := ⟨⟨_, ci_Refused, cm_Refused⟩, rfl, by decide, by decide, tp_Refused⟩
  have om_SizeError : OwnM K c_SizeError [c_SizeError] ["ArithmeticError", "Exception", "BaseException", "object"] := ⟨⟨_, ci_SizeError, cm_SizeError⟩, rfl, by decide, by decide, tp_SizeError⟩
  have om_TooMany : OwnM K c_TooMany [c_TooMany, c_SizeError] ["ArithmeticError", "Exception", "BaseException", "object"] := ⟨⟨_, ci_TooMany, cm_TooMany⟩, rfl, by decide, by decide, tp_TooMany⟩
  have ek_ShapeError : ErrK K c_ShapeError := ⟨⟨xa_ShapeError, xg_ShapeError, xs_ShapeError, xd_ShapeError⟩, by rw [ci_ShapeError]; rfl, ha_ShapeError, oc_hn, oc_tk, mo_ShapeError⟩
  have ek_InvalidStep : ErrK K c_InvalidStep := ⟨⟨xa_InvalidStep, xg_InvalidStep, xs_InvalidStep, xd_InvalidStep⟩, by rw [ci_InvalidStep]; rfl, ha_InvalidStep, oc_hn, oc_tk, mo_InvalidStep⟩
  have ek_InvalidNumber : ErrK K c_InvalidNumber := ⟨⟨xa_InvalidNumber, xg_InvalidNumber, xs_InvalidNumber, xd_InvalidNumber⟩, by rw [ci_InvalidNumber]; rfl, ha_InvalidNumber, oc_hn, oc_tk, mo_InvalidNumber⟩
  have ek_InvalidNumbers : ErrK K c_InvalidNumbers := ⟨⟨xa_InvalidNumbers, xg_InvalidNumbers, xs_InvalidNumbers, xd_InvalidNumbers⟩, by rw [ci_InvalidNumbers]; rfl, ha_InvalidNumbers, oc_hn, oc_tk, mo_InvalidNumbers⟩
  have ek_InvalidDigits : ErrK K c_InvalidDigits := ⟨⟨xa_InvalidDigits, xg_InvalidDigits, xs_InvalidDigits, xd_InvalidDigits⟩, by rw [ci_InvalidDigits]; rfl, ha_InvalidDigits, oc_hn, oc_tk, mo_InvalidDigits⟩
  have ek_InvalidMoves : ErrK K c_InvalidMoves := ⟨⟨xa_InvalidMoves, xg_InvalidMoves, xs_InvalidMoves, xd_InvalidMoves⟩, by rw [ci_InvalidMoves]; rfl, ha_InvalidMoves, oc_hn, oc_tk, mo_InvalidMoves⟩
  have ek_InvalidSigns : ErrK K c_InvalidSigns := ⟨⟨xa_InvalidSigns, xg_InvalidSigns, xs_InvalidSigns, xd_InvalidSigns⟩, by rw [ci_InvalidSigns]; rfl, ha_InvalidSigns, oc_hn, oc_tk, mo_InvalidSigns⟩
  have ek_InvalidRule : ErrK K c_InvalidRule := ⟨⟨xa_InvalidRule, xg_InvalidRule, xs_InvalidRule, xd_InvalidRule⟩, by rw [ci_InvalidRule]; rfl, ha_InvalidRule, oc_hn, oc_tk, mo_InvalidRule⟩
  have ek_InvalidName : ErrK K c_InvalidName := ⟨⟨xa_InvalidName, xg_InvalidName, xs_InvalidName, xd_InvalidName⟩, by rw [ci_InvalidName]; rfl, ha_InvalidName, oc_hn, oc_tk, mo_InvalidName⟩
  have ek_InvalidWish : ErrK K c_InvalidWish := ⟨⟨xa_InvalidWish, xg_InvalidWish, xs_InvalidWish, xd_InvalidWish⟩, by rw [ci_InvalidWish]; rfl, ha_InvalidWish, oc_hn, oc_tk, mo_InvalidWish⟩
  have ek_InvalidText : ErrK K c_InvalidText := ⟨⟨xa_InvalidText, xg_InvalidText, xs_InvalidText, xd_InvalidText⟩, by rw [ci_InvalidText]; rfl, ha_InvalidText, oc_hn, oc_tk, mo_InvalidText⟩
  have ek_InvalidRows : ErrK K c_InvalidRows := ⟨⟨xa_InvalidRows, xg_InvalidRows, xs_InvalidRows, xd_InvalidRows⟩, by rw [ci_InvalidRows]; rfl, ha_InvalidRows, oc_hn, oc_tk, mo_InvalidRows⟩
  have ek_InvalidSayings : ErrK K c_InvalidSayings := ⟨⟨xa_InvalidSayings, xg_InvalidSayings, xs_InvalidSayings, xd_InvalidSayings⟩, by rw [ci_InvalidSayings]; rfl, ha_InvalidSayings, oc_hn, oc_tk, mo_InvalidSayings⟩
  have ek_InvalidGood : ErrK K c_InvalidGood := ⟨⟨xa_InvalidGood, xg_InvalidGood, xs_InvalidGood, xd_InvalidGood⟩, by rw [ci_InvalidGood]; rfl, ha_InvalidGood, oc_hn, oc_tk, mo_InvalidGood⟩
  have ek_InvalidGuards : ErrK K c_InvalidGuards := ⟨⟨xa_InvalidGuards, xg_InvalidGuards, xs_InvalidGuards, xd_InvalidGuards⟩, by rw [ci_InvalidGuards]; rfl, ha_InvalidGuards, oc_hn, oc_tk, mo_InvalidGuards⟩
  have ek_InvalidDeed : ErrK K c_InvalidDeed := ⟨⟨xa_InvalidDeed, xg_InvalidDeed, xs_InvalidDeed, xd_InvalidDeed⟩, by rw [ci_InvalidDeed]; rfl, ha_InvalidDeed, oc_hn, oc_tk, mo_InvalidDeed⟩
  have ek_InvalidLine : ErrK K c_InvalidLine := ⟨⟨xa_InvalidLine, xg_InvalidLine, xs_InvalidLine, xd_InvalidLine⟩, by rw [ci_InvalidLine]; rfl, ha_InvalidLine, oc_hn, oc_tk, mo_InvalidLine⟩
  have ek_NotASystem : ErrK K c_NotASystem := ⟨⟨xa_NotASystem, xg_NotASystem, xs_NotASystem, xd_NotASystem⟩, by rw [ci_NotASystem]; rfl, ha_NotASystem, oc_hn, oc_tk, mo_NotASystem⟩
  have ek_NotARow : ErrK K c_NotARow := ⟨⟨xa_NotARow, xg_NotARow, xs_NotARow, xd_NotARow⟩, by rw [ci_NotARow]; rfl, ha_NotARow, oc_hn, oc_tk, mo_NotARow⟩
  have ek_NotAWish : ErrK K c_NotAWish := ⟨⟨xa_NotAWish, xg_NotAWish, xs_NotAWish, xd_NotAWish⟩, by rw [ci_NotAWish]; rfl, ha_NotAWish, oc_hn, oc_tk, mo_NotAWish⟩
  have ek_NotABook : ErrK K c_NotABook := ⟨⟨xa_NotABook, xg_NotABook, xs_NotABook, xd_NotABook⟩, by rw [ci_NotABook]; rfl, ha_NotABook, oc_hn, oc_tk, mo_NotABook⟩
  have ek_NotAMachine : ErrK K c_NotAMachine := ⟨⟨xa_NotAMachine, xg_NotAMachine, xs_NotAMachine, xd_NotAMachine⟩, by rw [ci_NotAMachine]; rfl, ha_NotAMachine, oc_hn, oc_tk, mo_NotAMachine⟩
  have ek_QuestionError : ErrK K c_QuestionError := ⟨⟨xa_QuestionError, xg_QuestionError, xs_QuestionError, xd_QuestionError⟩, by rw [ci_QuestionError]; rfl, ha_QuestionError, oc_hn, oc_tk, mo_QuestionError⟩
  have ek_OtherSystem : ErrK K c_OtherSystem := ⟨⟨xa_OtherSystem, xg_OtherSystem, xs_OtherSystem, xd_OtherSystem⟩, by rw [ci_OtherSystem]; rfl, ha_OtherSystem, oc_hn, oc_tk, mo_OtherSystem⟩
  have ek_OtherNames : ErrK K c_OtherNames := ⟨⟨xa_OtherNames, xg_OtherNames, xs_OtherNames, xd_OtherNames⟩, by rw [ci_OtherNames]; rfl, ha_OtherNames, oc_hn, oc_tk, mo_OtherNames⟩
  have ek_UnknownRow : ErrK K c_UnknownRow := ⟨⟨xa_UnknownRow, xg_UnknownRow, xs_UnknownRow, xd_UnknownRow⟩, by rw [ci_UnknownRow]; rfl, ha_UnknownRow, oc_hn, oc_tk, mo_UnknownRow⟩
  have ek_UnknownSaying : ErrK K c_UnknownSaying := ⟨⟨xa_UnknownSaying, xg_UnknownSaying, xs_UnknownSaying, xd_UnknownSaying⟩, by rw [ci_UnknownSaying]; rfl, ha_UnknownSaying, oc_hn, oc_tk, mo_UnknownSaying⟩
  have ek_Never : ErrK K c_Never := ⟨⟨xa_Never, xg_Never, xs_Never, xd_Never⟩, by rw [ci_Never]; rfl, ha_Never, oc_hn, oc_tk, mo_Never⟩
  have ek_Endless : ErrK K c_Endless := ⟨⟨xa_Endless, xg_Endless, xs_Endless, xd_Endless⟩, by rw [ci_Endless]; rfl, ha_Endless, oc_hn, oc_tk, mo_Endless⟩
  have ek_TooFew : ErrK K c_TooFew := ⟨⟨xa_TooFew, xg_TooFew, xs_TooFew, xd_TooFew⟩, by rw [ci_TooFew]; rfl, ha_TooFew, oc_hn, oc_tk, mo_TooFew⟩
  have ek_Busy : ErrK K c_Busy := ⟨⟨xa_Busy, xg_Busy, xs_Busy, xd_Busy⟩, by rw [ci_Busy]; rfl, ha_Busy, oc_hn, oc_tk, mo_Busy⟩
  have ek_NothingToUndo : ErrK K c_NothingToUndo := ⟨⟨xa_NothingToUndo, xg_NothingToUndo, xs_NothingToUndo, xd_NothingToUndo⟩, by rw [ci_NothingToUndo]; rfl, ha_NothingToUndo, oc_hn, oc_tk, mo_NothingToUndo⟩
  have ek_Refused : ErrK K c_Refused := ⟨⟨xa_Refused, xg_Refused, xs_Refused, xd_Refused⟩, by rw [ci_Refused]; rfl, ha_Refused, oc_hn, oc_tk, mo_Refused⟩
  have ek_SizeError : ErrK K c_SizeError := ⟨⟨xa_SizeError, xg_SizeError, xs_SizeError, xd_SizeError⟩, by rw [ci_SizeError]; rfl, ha_SizeError, oc_hn, oc_tk, mo_SizeError⟩
  have ek_TooMany : ErrK K c_TooMany := ⟨⟨xa_TooMany, xg_TooMany, xs_TooMany, xd_TooMany⟩, by rw [ci_TooMany]; rfl, ha_TooMany, oc_hn, oc_tk, mo_TooMany⟩
  have oe_InvalidStep : OexB K c_InvalidStep := ⟨⟨_, _, _, _, _, _, _, _, _, _, _, _, _, _, _, _, _, ox_InvalidStep, rv_InvalidStep, erb_VE⟩, sa_InvalidStep, sx_InvalidStep, tp_InvalidStep, kc_InvalidStep⟩
  have oe_InvalidNumber : OexB K c_InvalidNumber := ⟨⟨_, _, _, _, _, _, _, _, _, _, _, _, _, _, _, _, _, ox_InvalidNumber, rv_InvalidNumber, erb_VE⟩, sa_InvalidNumber, sx_InvalidNumber, tp_InvalidNumber, kc_InvalidNumber⟩
  have oe_InvalidNumbers : OexB K c_InvalidNumbers := ⟨⟨_, _, _, _, _, _, _, _, _, _, _, _, _, _, _, _, _, ox_InvalidNumbers, rv_InvalidNumbers, erb_VE⟩, sa_InvalidNumbers, sx_InvalidNumbers, tp_InvalidNumbers, kc_InvalidNumbers⟩
  have oe_InvalidDigits : OexB K c_InvalidDigits := ⟨⟨_, _, _, _, _, _, _, _, _, _, _, _, _, _, _, _, _, ox_InvalidDigits, rv_InvalidDigits, erb_VE⟩, sa_InvalidDigits, sx_InvalidDigits, tp_InvalidDigits, kc_InvalidDigits⟩
  have oe_InvalidMoves : OexB K c_InvalidMoves := ⟨⟨_, _, _, _, _, _, _, _, _, _, _, _, _, _, _, _, _, ox_InvalidMoves, rv_InvalidMoves, erb_VE⟩, sa_InvalidMoves, sx_InvalidMoves, tp_InvalidMoves, kc_InvalidMoves⟩
  have oe_InvalidSigns : OexB K c_InvalidSigns := ⟨⟨_, _, _, _, _, _, _, _, _, _, _, _, _, _, _, _, _, ox_InvalidSigns, rv_InvalidSigns, erb_VE⟩, sa_InvalidSigns, sx_InvalidSigns, tp_InvalidSigns, kc_InvalidSigns⟩
  have oe_InvalidRule : OexB K c_InvalidRule := ⟨⟨_, _, _, _, _, _, _, _, _, _, _, _, _, _, _, _, _, ox_InvalidRule, rv_InvalidRule, erb_VE⟩, sa_InvalidRule, sx_InvalidRule, tp_InvalidRule, kc_InvalidRule⟩
  have oe_InvalidName : OexB K c_InvalidName := ⟨⟨_, _, _, _, _, _, _, _, _, _, _, _, _, _, _, _, _, ox_InvalidName, rv_InvalidName, erb_VE⟩, sa_InvalidName, sx_InvalidName, tp_InvalidName, kc_InvalidName⟩
  have oe_InvalidWish : OexB K c_InvalidWish := ⟨⟨_, _, _, _, _, _, _, _, _, _, _, _, _, _, _, _, _, ox_InvalidWish, rv_InvalidWish, erb_VE⟩, sa_InvalidWish, sx_InvalidWish, tp_InvalidWish, kc_InvalidWish⟩
  have oe_InvalidText : OexB K c_InvalidText := ⟨⟨_, _, _, _, _, _, _, _, _, _, _, _, _, _, _, _, _, ox_InvalidText, rv_InvalidText, erb_VE⟩, sa_InvalidText, sx_InvalidText, tp_InvalidText, kc_InvalidText⟩
  have oe_InvalidRows : OexB K c_InvalidRows := ⟨⟨_, _, _, _, _, _, _, _, _, _, _, _, _, _, _, _, _, ox_InvalidRows, rv_InvalidRows, erb_VE⟩, sa_InvalidRows, sx_InvalidRows, tp_InvalidRows, kc_InvalidRows⟩
  have oe_InvalidSayings : OexB K c_InvalidSayings := ⟨⟨_, _, _, _, _, _, _, _, _, _, _, _, _, _, _, _, _, ox_InvalidSayings, rv_InvalidSayings, erb_VE⟩, sa_InvalidSayings, sx_InvalidSayings, tp_InvalidSayings, kc_InvalidSayings⟩
  have oe_InvalidGood : OexB K c_InvalidGood := ⟨⟨_, _, _, _, _, _, _, _, _, _, _, _, _, _, _, _, _, ox_InvalidGood, rv_InvalidGood, erb_VE⟩, sa_InvalidGood, sx_InvalidGood, tp_InvalidGood, kc_InvalidGood⟩
  have oe_InvalidGuards : OexB K c_InvalidGuards := ⟨⟨_, _, _, _, _, _, _, _, _, _, _, _, _, _, _, _, _, ox_InvalidGuards, rv_InvalidGuards, erb_VE⟩, sa_InvalidGuards, sx_InvalidGuards, tp_InvalidGuards, kc_InvalidGuards⟩
  have oe_InvalidDeed : OexB K c_InvalidDeed := ⟨⟨_, _, _, _, _, _, _, _, _, _, _, _, _, _, _, _, _, ox_InvalidDeed, rv_InvalidDeed, erb_VE⟩, sa_InvalidDeed, sx_InvalidDeed, tp_InvalidDeed, kc_InvalidDeed⟩
  have oe_InvalidLine : OexB K c_InvalidLine := ⟨⟨_, _, _, _, _, _, _, _, _, _, _, _, _, _, _, _, _, ox_InvalidLine, rv_InvalidLine, erb_VE⟩, sa_InvalidLine, sx_InvalidLine, tp_InvalidLine, kc_InvalidLine⟩
  have oe_NotASystem : OexB K c_NotASystem := ⟨⟨_, _, _, _, _, _, _, _, _, _, _, _, _, _, _, _, _, ox_NotASystem, rv_NotASystem, erb_VE⟩, sa_NotASystem, sx_NotASystem, tp_NotASystem, kc_NotASystem⟩
  have oe_NotARow : OexB K c_NotARow := ⟨⟨_, _, _, _, _, _, _, _, _, _, _, _, _, _, _, _, _, ox_NotARow, rv_NotARow, erb_VE⟩, sa_NotARow, sx_NotARow, tp_NotARow, kc_NotARow⟩
  have oe_NotAWish : OexB K c_NotAWish := ⟨⟨_, _, _, _, _, _, _, _, _, _, _, _, _, _, _, _, _, ox_NotAWish, rv_NotAWish, erb_VE⟩, sa_NotAWish, sx_NotAWish, tp_NotAWish, kc_NotAWish⟩
  have oe_NotABook : OexB K c_NotABook := ⟨⟨_, _, _, _, _, _, _, _, _, _, _, _, _, _, _, _, _, ox_NotABook, rv_NotABook, erb_VE⟩, sa_NotABook, sx_NotABook, tp_NotABook, kc_NotABook⟩
  have oe_NotAMachine : OexB K c_NotAMachine := ⟨⟨_, _, _, _, _, _, _, _, _, _, _, _, _, _, _, _, _, ox_NotAMachine, rv_NotAMachine, erb_VE⟩, sa_NotAMachine, sx_NotAMachine, tp_NotAMachine, kc_NotAMachine⟩
  have oe_OtherSystem : OexB K c_OtherSystem := ⟨⟨_, _, _, _, _, _, _, _, _, _, _, _, _, _, _, _, _, ox_OtherSystem, rv_OtherSystem, erb_LE⟩, sa_OtherSystem, sx_OtherSystem, tp_OtherSystem, kc_OtherSystem⟩
  have oe_OtherNames : OexB K c_OtherNames := ⟨⟨_, _, _, _, _, _, _, _, _, _, _, _, _, _, _, _, _, ox_OtherNames, rv_OtherNames, erb_LE⟩, sa_OtherNames, sx_OtherNames, tp_OtherNames, kc_OtherNames⟩
  have oe_UnknownRow : OexB K c_UnknownRow := ⟨⟨_, _, _, _, _, _, _, _, _, _, _, _, _, _, _, _, _, ox_UnknownRow, rv_UnknownRow, erb_LE⟩, sa_UnknownRow, sx_UnknownRow, tp_UnknownRow, kc_UnknownRow⟩
  have oe_UnknownSaying : OexB K c_UnknownSaying := ⟨⟨_, _, _, _, _, _, _, _, _, _, _, _, _, _, _, _, _, ox_UnknownSaying, rv_UnknownSaying, erb_LE⟩, sa_UnknownSaying, sx_UnknownSaying, tp_UnknownSaying, kc_UnknownSaying⟩
  have oe_TooFew : OexB K c_TooFew := ⟨⟨_, _, _, _, _, _, _, _, _, _, _, _, _, _, _, _, _, ox_TooFew, rv_TooFew, erb_LE⟩, sa_TooFew, sx_TooFew, tp_TooFew, kc_TooFew⟩
  have oe_Refused : OexB K c_Refused := ⟨⟨_, _, _, _, _, _, _, _, _, _, _, _, _, _, _, _, _, ox_Refused, rv_Refused, erb_LE⟩, sa_Refused, sx_Refused, tp_Refused, kc_Refused⟩
  have oe_TooMany : OexB K c_TooMany := ⟨⟨_, _, _, _, _, _, _, _, _, _, _, _, _, _, _, _, _, ox_TooMany, rv_TooMany, erb_AE⟩, sa_TooMany, sx_TooMany, tp_TooMany, kc_TooMany⟩
  have eco : EcOk K ([(c_ShapeError, [c_ShapeError], ["ValueError", "Exception", "BaseException", "object"]), (c_InvalidStep, [c_InvalidStep, c_ShapeError], ["ValueError", "Exception", "BaseException", "object"]), (c_InvalidNumber, [c_InvalidNumber, c_ShapeError], ["ValueError", "Exception", "BaseException", "object"]), (c_InvalidNumbers, [c_InvalidNumbers, c_ShapeError], ["ValueError", "Exception", "BaseException", "object"]), (c_InvalidDigits, [c_InvalidDigits, c_ShapeError], ["ValueError", "Exception", "BaseException", "object"]), (c_InvalidMoves, [c_InvalidMoves, c_ShapeError], ["ValueError", "Exception", "BaseException", "object"]), (c_InvalidSigns, [c_InvalidSigns, c_ShapeError], ["ValueError", "Exception", "BaseException", "object"]), (c_InvalidRule, [c_InvalidRule, c_ShapeError], ["ValueError", "Exception", "BaseException", "object"]), (c_InvalidName, [c_InvalidName, c_ShapeError], ["ValueError", "Exception", "BaseException", "object"]), (c_InvalidWish, [c_InvalidWish, c_ShapeError], ["ValueError", "Exception", "BaseException", "object"]), (c_InvalidText, [c_InvalidText, c_ShapeError], ["ValueError", "Exception", "BaseException", "object"]), (c_InvalidRows, [c_InvalidRows, c_ShapeError], ["ValueError", "Exception", "BaseException", "object"]), (c_InvalidSayings, [c_InvalidSayings, c_ShapeError], ["ValueError", "Exception", "BaseException", "object"]), (c_InvalidGood, [c_InvalidGood, c_ShapeError], ["ValueError", "Exception", "BaseException", "object"]), (c_InvalidGuards, [c_InvalidGuards, c_ShapeError], ["ValueError", "Exception", "BaseException", "object"]), (c_InvalidDeed, [c_InvalidDeed, c_ShapeError], ["ValueError", "Exception", "BaseException", "object"]), (c_InvalidLine, [c_InvalidLine, c_ShapeError], ["ValueError", "Exception", "BaseException", "object"]), (c_NotASystem, [c_NotASystem, c_ShapeError], ["ValueError", "Exception", "BaseException", "object"]), (c_NotARow, [c_NotARow, c_ShapeError], ["ValueError", "Exception", "BaseException", "object"]), (c_NotAWish, [c_NotAWish, c_ShapeError], ["ValueError", "Exception", "BaseException", "object"]), (c_NotABook, [c_NotABook, c_ShapeError], ["ValueError", "Exception", "BaseException", "object"]), (c_NotAMachine, [c_NotAMachine, c_ShapeError], ["ValueError", "Exception", "BaseException", "object"]), (c_QuestionError, [c_QuestionError], ["LookupError", "Exception", "BaseException", "object"]), (c_OtherSystem, [c_OtherSystem, c_QuestionError], ["LookupError", "Exception", "BaseException", "object"]), (c_OtherNames, [c_OtherNames, c_QuestionError], ["LookupError", "Exception", "BaseException", "object"]), (c_UnknownRow, [c_UnknownRow, c_QuestionError], ["LookupError", "Exception", "BaseException", "object"]), (c_UnknownSaying, [c_UnknownSaying, c_QuestionError], ["LookupError", "Exception", "BaseException", "object"]), (c_Never, [c_Never, c_QuestionError], ["LookupError", "Exception", "BaseException", "object"]), (c_Endless, [c_Endless, c_QuestionError], ["LookupError", "Exception", "BaseException", "object"]), (c_TooFew, [c_TooFew, c_QuestionError], ["LookupError", "Exception", "BaseException", "object"]), (c_Busy, [c_Busy, c_QuestionError], ["LookupError", "Exception", "BaseException", "object"]), (c_NothingToUndo, [c_NothingToUndo, c_QuestionError], ["LookupError", "Exception", "BaseException", "object"]), (c_Refused, [c_Refused, c_QuestionError], ["LookupError", "Exception", "BaseException", "object"]), (c_SizeError, [c_SizeError], ["ArithmeticError", "Exception", "BaseException", "object"]), (c_TooMany, [c_TooMany, c_SizeError], ["ArithmeticError", "Exception", "BaseException", "object"])] : ECs) ["deed", "shown", "given", "many", "limit", "value", "index"] := ⟨fun p hp => by
    simp only [List.mem_cons, List.not_mem_nil, or_false] at hp
    rcases hp with rfl | rfl | rfl | rfl | rfl | rfl | rfl | rfl | rfl | rfl | rfl | rfl | rfl | rfl | rfl | rfl | rfl | rfl | rfl | rfl | rfl | rfl | rfl | rfl | rfl | rfl | rfl | rfl | rfl | rfl | rfl | rfl | rfl | rfl | rfl
    · exact ⟨ek_ShapeError, om_ShapeError⟩
    · exact ⟨ek_InvalidStep, om_InvalidStep⟩
    · exact ⟨ek_InvalidNumber, om_InvalidNumber⟩
    · exact ⟨ek_InvalidNumbers, om_InvalidNumbers⟩
    · exact ⟨ek_InvalidDigits, om_InvalidDigits⟩
    · exact ⟨ek_InvalidMoves, om_InvalidMoves⟩
    · exact ⟨ek_InvalidSigns, om_InvalidSigns⟩
    · exact ⟨ek_InvalidRule, om_InvalidRule⟩
    · exact ⟨ek_InvalidName, om_InvalidName⟩
    · exact ⟨ek_InvalidWish, om_InvalidWish⟩
    · exact ⟨ek_InvalidText, om_InvalidText⟩
    · exact ⟨ek_InvalidRows, om_InvalidRows⟩
    · exact ⟨ek_InvalidSayings, om_InvalidSayings⟩
    · exact ⟨ek_InvalidGood, om_InvalidGood⟩
    · exact ⟨ek_InvalidGuards, om_InvalidGuards⟩
    · exact ⟨ek_InvalidDeed, om_InvalidDeed⟩
    · exact ⟨ek_InvalidLine, om_InvalidLine⟩
    · exact ⟨ek_NotASystem, om_NotASystem⟩
    · exact ⟨ek_NotARow, om_NotARow⟩
    · exact ⟨ek_NotAWish, om_NotAWish⟩
    · exact ⟨ek_NotABook, om_NotABook⟩
    · exact ⟨ek_NotAMachine, om_NotAMachine⟩
    · exact ⟨ek_QuestionError, om_QuestionError⟩
    · exact ⟨ek_OtherSystem, om_OtherSystem⟩
    · exact ⟨ek_OtherNames, om_OtherNames⟩
    · exact ⟨ek_UnknownRow, om_UnknownRow⟩
    · exact ⟨ek_UnknownSaying, om_UnknownSaying⟩
    · exact ⟨ek_Never, om_Never⟩
    · exact ⟨ek_Endless, om_Endless⟩
    · exact ⟨ek_TooFew, om_TooFew⟩
    · exact ⟨ek_Busy, om_Busy⟩
    · exact ⟨ek_NothingToUndo, om_NothingToUndo⟩
    · exact ⟨ek_Refused, om_Refused⟩
    · exact ⟨ek_SizeError, om_SizeError⟩
    · exact ⟨ek_TooMany, om_TooMany⟩
    , fun p hp x hx => by
    simp only [List.mem_cons, List.not_mem_nil, or_false] at hp hx
    rcases hp with rfl | rfl | rfl | rfl | rfl | rfl | rfl | rfl | rfl | rfl | rfl | rfl | rfl | rfl | rfl | rfl | rfl | rfl | rfl | rfl | rfl | rfl | rfl | rfl | rfl | rfl | rfl | rfl | rfl | rfl | rfl | rfl | rfl | rfl | rfl <;> rcases hx with rfl | rfl | rfl | rfl | rfl | rfl | rfl
    · exact nf_ShapeError_deed
    · exact nf_ShapeError_shown
    · exact nf_ShapeError_given
    · exact nf_ShapeError_many
    · exact nf_ShapeError_limit
    · exact nf_ShapeError_value
    · exact nf_ShapeError_index
    · exact nf_InvalidStep_deed
    · exact nf_InvalidStep_shown
    · exact nf_InvalidStep_given
    · exact nf_InvalidStep_many
    · exact nf_InvalidStep_limit
    · exact nf_InvalidStep_value
    · exact nf_InvalidStep_index
    · exact nf_InvalidNumber_deed
    · exact nf_InvalidNumber_shown
    · exact nf_InvalidNumber_given
    · exact nf_InvalidNumber_many
    · exact nf_InvalidNumber_limit
    · exact nf_InvalidNumber_value
    · exact nf_InvalidNumber_index
    · exact nf_InvalidNumbers_deed
    · exact nf_InvalidNumbers_shown
    · exact nf_InvalidNumbers_given
    · exact nf_InvalidNumbers_many
    · exact nf_InvalidNumbers_limit
    · exact nf_InvalidNumbers_value
    · exact nf_InvalidNumbers_index
    · exact nf_InvalidDigits_deed
    · exact nf_InvalidDigits_shown
    · exact nf_InvalidDigits_given
    · exact nf_InvalidDigits_many
    · exact nf_InvalidDigits_limit
    · exact nf_InvalidDigits_value
    · exact nf_InvalidDigits_index
    · exact nf_InvalidMoves_deed
    · exact nf_InvalidMoves_shown
    · exact nf_InvalidMoves_given
    · exact nf_InvalidMoves_many
    · exact nf_InvalidMoves_limit
    · exact nf_InvalidMoves_value
    · exact nf_InvalidMoves_index
    · exact nf_InvalidSigns_deed
    · exact nf_InvalidSigns_shown
    · exact nf_InvalidSigns_given
    · exact nf_InvalidSigns_many
    · exact nf_InvalidSigns_limit
    · exact nf_InvalidSigns_value
    · exact nf_InvalidSigns_index
    · exact nf_InvalidRule_deed
    · exact nf_InvalidRule_shown
    · exact nf_InvalidRule_given
    · exact nf_InvalidRule_many
    · exact nf_InvalidRule_limit
    · exact nf_InvalidRule_value
    · exact nf_InvalidRule_index
    · exact nf_InvalidName_deed
    · exact nf_InvalidName_shown
    · exact nf_InvalidName_given
    · exact nf_InvalidName_many
    · exact nf_InvalidName_limit
    · exact nf_InvalidName_value
    · exact nf_InvalidName_index
    · exact nf_InvalidWish_deed
    · exact nf_InvalidWish_shown
    · exact nf_InvalidWish_given
    · exact nf_InvalidWish_many
    · exact nf_InvalidWish_limit
    · exact nf_InvalidWish_value
    · exact nf_InvalidWish_index
    · exact nf_InvalidText_deed
    · exact nf_InvalidText_shown
    · exact nf_InvalidText_given
    · exact nf_InvalidText_many
    · exact nf_InvalidText_limit
    · exact nf_InvalidText_value
    · exact nf_InvalidText_index
    · exact nf_InvalidRows_deed
    · exact nf_InvalidRows_shown
    · exact nf_InvalidRows_given
    · exact nf_InvalidRows_many
    · exact nf_InvalidRows_limit
    · exact nf_InvalidRows_value
    · exact nf_InvalidRows_index
    · exact nf_InvalidSayings_deed
    · exact nf_InvalidSayings_shown
    · exact nf_InvalidSayings_given
    · exact nf_InvalidSayings_many
    · exact nf_InvalidSayings_limit
    · exact nf_InvalidSayings_value
    · exact nf_InvalidSayings_index
    · exact nf_InvalidGood_deed
    · exact nf_InvalidGood_shown
    · exact nf_InvalidGood_given
    · exact nf_InvalidGood_many
    · exact nf_InvalidGood_limit
    · exact nf_InvalidGood_value
    · exact nf_InvalidGood_index
    · exact nf_InvalidGuards_deed
    · exact nf_InvalidGuards_shown
    · exact nf_InvalidGuards_given
    · exact nf_InvalidGuards_many
    · exact nf_InvalidGuards_limit
    · exact nf_InvalidGuards_value
    · exact nf_InvalidGuards_index
    · exact nf_InvalidDeed_deed
    · exact nf_InvalidDeed_shown
    · exact nf_InvalidDeed_given
    · exact nf_InvalidDeed_many
    · exact nf_InvalidDeed_limit
    · exact nf_InvalidDeed_value
    · exact nf_InvalidDeed_index
    · exact nf_InvalidLine_deed
    · exact nf_InvalidLine_shown
    · exact nf_InvalidLine_given
    · exact nf_InvalidLine_many
    · exact nf_InvalidLine_limit
    · exact nf_InvalidLine_value
    · exact nf_InvalidLine_index
    · exact nf_NotASystem_deed
    · exact nf_NotASystem_shown
    · exact nf_NotASystem_given
    · exact nf_NotASystem_many
    · exact nf_NotASystem_limit
    · exact nf_NotASystem_value
    · exact nf_NotASystem_index
    · exact nf_NotARow_deed
    · exact nf_NotARow_shown
    · exact nf_NotARow_given
    · exact nf_NotARow_many
    · exact nf_NotARow_limit
    · exact nf_NotARow_value
    · exact nf_NotARow_index
    · exact nf_NotAWish_deed
    · exact nf_NotAWish_shown
    · exact nf_NotAWish_given
    · exact nf_NotAWish_many
    · exact nf_NotAWish_limit
    · exact nf_NotAWish_value
    · exact nf_NotAWish_index
    · exact nf_NotABook_deed
    · exact nf_NotABook_shown
    · exact nf_NotABook_given
    · exact nf_NotABook_many
    · exact nf_NotABook_limit
    · exact nf_NotABook_value
    · exact nf_NotABook_index
    · exact nf_NotAMachine_deed
    · exact nf_NotAMachine_shown
    · exact nf_NotAMachine_given
    · exact nf_NotAMachine_many
    · exact nf_NotAMachine_limit
    · exact nf_NotAMachine_value
    · exact nf_NotAMachine_index
    · exact nf_QuestionError_deed
    · exact nf_QuestionError_shown
    · exact nf_QuestionError_given
    · exact nf_QuestionError_many
    · exact nf_QuestionError_limit
    · exact nf_QuestionError_value
    · exact nf_QuestionError_index
    · exact nf_OtherSystem_deed
    · exact nf_OtherSystem_shown
    · exact nf_OtherSystem_given
    · exact nf_OtherSystem_many
    · exact nf_OtherSystem_limit
    · exact nf_OtherSystem_value
    · exact nf_OtherSystem_index
    · exact nf_OtherNames_deed
    · exact nf_OtherNames_shown
    · exact nf_OtherNames_given
    · exact nf_OtherNames_many
    · exact nf_OtherNames_limit
    · exact nf_OtherNames_value
    · exact nf_OtherNames_index
    · exact nf_UnknownRow_deed
    · exact nf_UnknownRow_shown
    · exact nf_UnknownRow_given
    · exact nf_UnknownRow_many
    · exact nf_UnknownRow_limit
    · exact nf_UnknownRow_value
    · exact nf_UnknownRow_index
    · exact nf_UnknownSaying_deed
    · exact nf_UnknownSaying_shown
    · exact nf_UnknownSaying_given
    · exact nf_UnknownSaying_many
    · exact nf_UnknownSaying_limit
    · exact nf_UnknownSaying_value
    · exact nf_UnknownSaying_index
    · exact nf_Never_deed
    · exact nf_Never_shown
    · exact nf_Never_given
    · exact nf_Never_many
    · exact nf_Never_limit
    · exact nf_Never_value
    · exact nf_Never_index
    · exact nf_Endless_deed
    · exact nf_Endless_shown
    · exact nf_Endless_given
    · exact nf_Endless_many
    · exact nf_Endless_limit
    · exact nf_Endless_value
    · exact nf_Endless_index
    · exact nf_TooFew_deed
    · exact nf_TooFew_shown
    · exact nf_TooFew_given
    · exact nf_TooFew_many
    · exact nf_TooFew_limit
    · exact nf_TooFew_value
    · exact nf_TooFew_index
    · exact nf_Busy_deed
    · exact nf_Busy_shown
    · exact nf_Busy_given
    · exact nf_Busy_many
    · exact nf_Busy_limit
    · exact nf_Busy_value
    · exact nf_Busy_index
    · exact nf_NothingToUndo_deed
    · exact nf_NothingToUndo_shown
    · exact nf_NothingToUndo_given
    · exact nf_NothingToUndo_many
    · exact nf_NothingToUndo_limit
    · exact nf_NothingToUndo_value
    · exact nf_NothingToUndo_index
    · exact nf_Refused_deed
    · exact nf_Refused_shown
    · exact nf_Refused_given
    · exact nf_Refused_many
    · exact nf_Refused_limit
    · exact nf_Refused_value
    · exact nf_Refused_index
    · exact nf_SizeError_deed
    · exact nf_SizeError_shown
    · exact nf_SizeError_given
    · exact nf_SizeError_many
    · exact nf_SizeError_limit
    · exact nf_SizeError_value
    · exact nf_SizeError_index
    · exact nf_TooMany_deed
    · exact nf_TooMany_shown
    · exact nf_TooMany_given
    · exact nf_TooMany_many
    · exact nf_TooMany_limit
    · exact nf_TooMany_value
    · exact nf_TooMany_index⟩
  have T : Txt K mg ⟨c_ShapeError, c_InvalidStep, c_InvalidNumber, c_InvalidNumbers, c_InvalidDigits, c_InvalidMoves, c_InvalidSigns, c_InvalidRule, c_InvalidName, c_InvalidWish, c_InvalidText, c_InvalidRows, c_InvalidSayings, c_InvalidGood, c_InvalidGuards, c_InvalidDeed, c_InvalidLine, c_NotASystem, c_NotARow, c_NotAWish, c_NotABook, c_NotAMachine, c_QuestionError, c_OtherSystem, c_OtherNames, c_UnknownRow, c_UnknownSaying, c_Never, c_Endless, c_TooFew, c_Busy, c_NothingToUndo, c_Refused, c_SizeError, c_TooMany, hne⟩ ⟨f_Refused_init, _, f_OtherSystem_init, _, f_OtherNames_init, _, f_TooFew_init, _, f_TooMany_init, _, f_law_classes, _, f_law_is, _, f_law_others_right, _, f_law_draw, _, f_law_one, _, f_InvalidStep_init, _, f_InvalidNumber_init, _, f_InvalidNumbers_init, _, f_InvalidDigits_init, _, f_InvalidMoves_init, _, f_InvalidSigns_init, _, f_InvalidName_init, _, f_InvalidWish_init, _, f_InvalidText_init, _, f_InvalidGood_init, _, f_InvalidLine_init, _, f_NotASystem_init, _, f_NotARow_init, _, f_NotAWish_init, _, f_NotABook_init, _, f_NotAMachine_init, _, f_UnknownRow_init, _, f_UnknownSaying_init, _, f_law_values, _, f_InvalidRule_init, _, f_InvalidRows_init, _, f_InvalidSayings_init, _, f_InvalidGuards_init, _, f_InvalidDeed_init, _, f_law_indexes, _, f_law_right, _, f_law_bag, _, fa, _⟩ := {
    F_Refused_init := F_Refused_init,
    b_Refused_init := b_Refused_init,
    oe_Refused := oe_Refused, in_Refused := a_Refused_init, ti_Refused := i_Refused_init, nf_Refused := nf_Refused_deed,
    nf2_Refused := nf_Refused_shown,
    F_OtherSystem_init := F_OtherSystem_init,
    b_OtherSystem_init := b_OtherSystem_init,
    oe_OtherSystem := oe_OtherSystem, in_OtherSystem := a_OtherSystem_init, ti_OtherSystem := i_OtherSystem_init, nf_OtherSystem := nf_OtherSystem_given,
    F_OtherNames_init := F_OtherNames_init,
    b_OtherNames_init := b_OtherNames_init,
    oe_OtherNames := oe_OtherNames, in_OtherNames := a_OtherNames_init, ti_OtherNames := i_OtherNames_init, nf_OtherNames := nf_OtherNames_given,
    F_TooFew_init := F_TooFew_init,
    b_TooFew_init := b_TooFew_init,
    oe_TooFew := oe_TooFew, in_TooFew := a_TooFew_init, ti_TooFew := i_TooFew_init, nf_TooFew := nf_TooFew_many,
    F_TooMany_init := F_TooMany_init,
    b_TooMany_init := b_TooMany_init,
    oe_TooMany := oe_TooMany, in_TooMany := a_TooMany_init, ti_TooMany := i_TooMany_init, nf_TooMany := nf_TooMany_limit,
    F_law_classes := F_law_classes,
    b_law_classes := b_law_classes,
    g_law_classes := PySem.W.mg_of X G a_law_classes,
    F_law_is := F_law_is,
    b_law_is := b_law_is,
    g_law_is := PySem.W.mg_of X G a_law_is,
    F_law_others_right := F_law_others_right,
    b_law_others_right := b_law_others_right,
    g_law_others_right := PySem.W.mg_of X G a_law_others_right,
    F_law_draw := F_law_draw,
    b_law_draw := b_law_draw,
    g_law_draw := PySem.W.mg_of X G a_law_draw,
    F_law_one := F_law_one,
    b_law_one := b_law_one,
    g_law_one := PySem.W.mg_of X G a_law_one,
    F_InvalidStep_init := F_InvalidStep_init,
    b_InvalidStep_init := b_InvalidStep_init,
    oe_InvalidStep := oe_InvalidStep, in_InvalidStep := a_InvalidStep_init, ti_InvalidStep := i_InvalidStep_init, nf_InvalidStep := nf_InvalidStep_value,
    F_InvalidNumber_init := F_InvalidNumber_init,
    b_InvalidNumber_init := b_InvalidNumber_init,
    oe_InvalidNumber := oe_InvalidNumber, in_InvalidNumber := a_InvalidNumber_init, ti_InvalidNumber := i_InvalidNumber_init, nf_InvalidNumber := nf_InvalidNumber_value,
    F_InvalidNumbers_init := F_InvalidNumbers_init,
    b_InvalidNumbers_init := b_InvalidNumbers_init,
    oe_InvalidNumbers := oe_InvalidNumbers, in_InvalidNumbers := a_InvalidNumbers_init, ti_InvalidNumbers := i_InvalidNumbers_init, nf_InvalidNumbers := nf_InvalidNumbers_value,
    F_InvalidDigits_init := F_InvalidDigits_init,
    b_InvalidDigits_init := b_InvalidDigits_init,
    oe_InvalidDigits := oe_InvalidDigits, in_InvalidDigits := a_InvalidDigits_init, ti_InvalidDigits := i_InvalidDigits_init, nf_InvalidDigits := nf_InvalidDigits_value,
    F_InvalidMoves_init := F_InvalidMoves_init,
    b_InvalidMoves_init := b_InvalidMoves_init,
    oe_InvalidMoves := oe_InvalidMoves, in_InvalidMoves := a_InvalidMoves_init, ti_InvalidMoves := i_InvalidMoves_init, nf_InvalidMoves := nf_InvalidMoves_value,
    F_InvalidSigns_init := F_InvalidSigns_init,
    b_InvalidSigns_init := b_InvalidSigns_init,
    oe_InvalidSigns := oe_InvalidSigns, in_InvalidSigns := a_InvalidSigns_init, ti_InvalidSigns := i_InvalidSigns_init, nf_InvalidSigns := nf_InvalidSigns_value,
    F_InvalidName_init := F_InvalidName_init,
    b_InvalidName_init := b_InvalidName_init,
    oe_InvalidName := oe_InvalidName, in_InvalidName := a_InvalidName_init, ti_InvalidName := i_InvalidName_init, nf_InvalidName := nf_InvalidName_value,
    F_InvalidWish_init := F_InvalidWish_init,
    b_InvalidWish_init := b_InvalidWish_init,
    oe_InvalidWish := oe_InvalidWish, in_InvalidWish := a_InvalidWish_init, ti_InvalidWish := i_InvalidWish_init, nf_InvalidWish := nf_InvalidWish_value,
    F_InvalidText_init := F_InvalidText_init,
    b_InvalidText_init := b_InvalidText_init,
    oe_InvalidText := oe_InvalidText, in_InvalidText := a_InvalidText_init, ti_InvalidText := i_InvalidText_init, nf_InvalidText := nf_InvalidText_value,
    F_InvalidGood_init := F_InvalidGood_init,
    b_InvalidGood_init := b_InvalidGood_init,
    oe_InvalidGood := oe_InvalidGood, in_InvalidGood := a_InvalidGood_init, ti_InvalidGood := i_InvalidGood_init, nf_InvalidGood := nf_InvalidGood_value,
    F_InvalidLine_init := F_InvalidLine_init,
    b_InvalidLine_init := b_InvalidLine_init,
    oe_InvalidLine := oe_InvalidLine, in_InvalidLine := a_InvalidLine_init, ti_InvalidLine := i_InvalidLine_init, nf_InvalidLine := nf_InvalidLine_value,
    F_NotASystem_init := F_NotASystem_init,
    b_NotASystem_init := b_NotASystem_init,
    oe_NotASystem := oe_NotASystem, in_NotASystem := a_NotASystem_init, ti_NotASystem := i_NotASystem_init, nf_NotASystem := nf_NotASystem_value,
    F_NotARow_init := F_NotARow_init,
    b_NotARow_init := b_NotARow_init,
    oe_NotARow := oe_NotARow, in_NotARow := a_NotARow_init, ti_NotARow := i_NotARow_init, nf_NotARow := nf_NotARow_value,
    F_NotAWish_init := F_NotAWish_init,
    b_NotAWish_init := b_NotAWish_init,
    oe_NotAWish := oe_NotAWish, in_NotAWish := a_NotAWish_init, ti_NotAWish := i_NotAWish_init, nf_NotAWish := nf_NotAWish_value,
    F_NotABook_init := F_NotABook_init,
    b_NotABook_init := b_NotABook_init,
    oe_NotABook := oe_NotABook, in_NotABook := a_NotABook_init, ti_NotABook := i_NotABook_init, nf_NotABook := nf_NotABook_value,
    F_NotAMachine_init := F_NotAMachine_init,
    b_NotAMachine_init := b_NotAMachine_init,
    oe_NotAMachine := oe_NotAMachine, in_NotAMachine := a_NotAMachine_init, ti_NotAMachine := i_NotAMachine_init, nf_NotAMachine := nf_NotAMachine_value,
    F_UnknownRow_init := F_UnknownRow_init,
    b_UnknownRow_init := b_UnknownRow_init,
    oe_UnknownRow := oe_UnknownRow, in_UnknownRow := a_UnknownRow_init, ti_UnknownRow := i_UnknownRow_init, nf_UnknownRow := nf_UnknownRow_value,
    F_UnknownSaying_init := F_UnknownSaying_init,
    b_UnknownSaying_init := b_UnknownSaying_init,
    oe_UnknownSaying := oe_UnknownSaying, in_UnknownSaying := a_UnknownSaying_init, ti_UnknownSaying := i_UnknownSaying_init, nf_UnknownSaying := nf_UnknownSaying_value,
    F_law_values := F_law_values,
    b_law_values := b_law_values,
    g_law_values := PySem.W.mg_of X G a_law_values,
    F_InvalidRule_init := F_InvalidRule_init,
    b_InvalidRule_init := b_InvalidRule_init,
    oe_InvalidRule := oe_InvalidRule, in_InvalidRule := a_InvalidRule_init, ti_InvalidRule := i_InvalidRule_init, nf_InvalidRule := nf_InvalidRule_index,
    F_InvalidRows_init := F_InvalidRows_init,
    b_InvalidRows_init := b_InvalidRows_init,
    oe_InvalidRows := oe_InvalidRows, in_InvalidRows := a_InvalidRows_init, ti_InvalidRows := i_InvalidRows_init, nf_InvalidRows := nf_InvalidRows_index,
    F_InvalidSayings_init := F_InvalidSayings_init,
    b_InvalidSayings_init := b_InvalidSayings_init,
    oe_InvalidSayings := oe_InvalidSayings, in_InvalidSayings := a_InvalidSayings_init, ti_InvalidSayings := i_InvalidSayings_init, nf_InvalidSayings := nf_InvalidSayings_index,
    F_InvalidGuards_init := F_InvalidGuards_init,
    b_InvalidGuards_init := b_InvalidGuards_init,
    oe_InvalidGuards := oe_InvalidGuards, in_InvalidGuards := a_InvalidGuards_init, ti_InvalidGuards := i_InvalidGuards_init, nf_InvalidGuards := nf_InvalidGuards_index,
    F_InvalidDeed_init := F_InvalidDeed_init,
    b_InvalidDeed_init := b_InvalidDeed_init,
    oe_InvalidDeed := oe_InvalidDeed, in_InvalidDeed := a_InvalidDeed_init, ti_InvalidDeed := i_InvalidDeed_init, nf_InvalidDeed := nf_InvalidDeed_index,
    F_law_indexes := F_law_indexes,
    b_law_indexes := b_law_indexes,
    g_law_indexes := PySem.W.mg_of X G a_law_indexes,
    F_law_right := F_law_right,
    b_law_right := b_law_right,
    g_law_right := PySem.W.mg_of X G a_law_right,
    F_law_bag := F_law_bag,
    b_law_bag := b_law_bag,
    g_law_bag := PySem.W.mg_of X G a_law_bag,
    F_law := F_law,
    b_law := b_law,
    g_law := PySem.W.mg_of X G a_law,
    kb_Refused_init_1_shown_deed := kb_Refused_init_1_shown_deed,
    kb_OtherSystem_init_1_given := kb_OtherSystem_init_1_given,
    kb_OtherNames_init_1_given := kb_OtherNames_init_1_given,
    kb_TooFew_init_1_many := kb_TooFew_init_1_many,
    kb_TooMany_init_1_limit := kb_TooMany_init_1_limit,
    kb_InvalidStep_init_1_value := kb_InvalidStep_init_1_value,
    kb_InvalidNumber_init_1_value := kb_InvalidNumber_init_1_value,
    kb_InvalidNumbers_init_1_value := kb_InvalidNumbers_init_1_value,
    kb_InvalidDigits_init_1_value := kb_InvalidDigits_init_1_value,
    kb_InvalidMoves_init_1_value := kb_InvalidMoves_init_1_value,
    kb_InvalidSigns_init_1_value := kb_InvalidSigns_init_1_value,
    kb_InvalidName_init_1_value := kb_InvalidName_init_1_value,
    kb_InvalidWish_init_1_value := kb_InvalidWish_init_1_value,
    kb_InvalidText_init_1_value := kb_InvalidText_init_1_value,
    kb_InvalidGood_init_1_value := kb_InvalidGood_init_1_value,
    kb_InvalidLine_init_1_value := kb_InvalidLine_init_1_value,
    kb_NotASystem_init_1_value := kb_NotASystem_init_1_value,
    kb_NotARow_init_1_value := kb_NotARow_init_1_value,
    kb_NotAWish_init_1_value := kb_NotAWish_init_1_value,
    kb_NotABook_init_1_value := kb_NotABook_init_1_value,
    kb_NotAMachine_init_1_value := kb_NotAMachine_init_1_value,
    kb_UnknownRow_init_1_value := kb_UnknownRow_init_1_value,
    kb_UnknownSaying_init_1_value := kb_UnknownSaying_init_1_value,
    kb_InvalidRule_init_1_index := kb_InvalidRule_init_1_index,
    kb_InvalidRows_init_1_index := kb_InvalidRows_init_1_index,
    kb_InvalidSayings_init_1_index := kb_InvalidSayings_init_1_index,
    kb_InvalidGuards_init_1_index := kb_InvalidGuards_init_1_index,
    kb_InvalidDeed_init_1_index := kb_InvalidDeed_init_1_index,
    m_ShapeError := PySem.W.mg_of X G g_ShapeError,
    m_InvalidStep := PySem.W.mg_of X G g_InvalidStep,
    m_InvalidNumber := PySem.W.mg_of X G g_InvalidNumber,
    m_InvalidNumbers := PySem.W.mg_of X G g_InvalidNumbers,
    m_InvalidDigits := PySem.W.mg_of X G g_InvalidDigits,
    m_InvalidMoves := PySem.W.mg_of X G g_InvalidMoves,
    m_InvalidSigns := PySem.W.mg_of X G g_InvalidSigns,
    m_InvalidRule := PySem.W.mg_of X G g_InvalidRule,
    m_InvalidName := PySem.W.mg_of X G g_InvalidName,
    m_InvalidWish := PySem.W.mg_of X G g_InvalidWish,
    m_InvalidText := PySem.W.mg_of X G g_InvalidText,
    m_InvalidRows := PySem.W.mg_of X G g_InvalidRows,
    m_InvalidSayings := PySem.W.mg_of X G g_InvalidSayings,
    m_InvalidGood := PySem.W.mg_of X G g_InvalidGood,
    m_InvalidGuards := PySem.W.mg_of X G g_InvalidGuards,
    m_InvalidDeed := PySem.W.mg_of X G g_InvalidDeed,
    m_InvalidLine := PySem.W.mg_of X G g_InvalidLine,
    m_NotASystem := PySem.W.mg_of X G g_NotASystem,
    m_NotARow := PySem.W.mg_of X G g_NotARow,
    m_NotAWish := PySem.W.mg_of X G g_NotAWish,
    m_NotABook := PySem.W.mg_of X G g_NotABook,
    m_NotAMachine := PySem.W.mg_of X G g_NotAMachine,
    m_QuestionError := PySem.W.mg_of X G g_QuestionError,
    m_OtherSystem := PySem.W.mg_of X G g_OtherSystem,
    m_OtherNames := PySem.W.mg_of X G g_OtherNames,
    m_UnknownRow := PySem.W.mg_of X G g_UnknownRow,
    m_UnknownSaying := PySem.W.mg_of X G g_UnknownSaying,
    m_Never := PySem.W.mg_of X G g_Never,
    m_Endless := PySem.W.mg_of X G g_Endless,
    m_TooFew := PySem.W.mg_of X G g_TooFew,
    m_Busy := PySem.W.mg_of X G g_Busy,
    m_NothingToUndo := PySem.W.mg_of X G g_NothingToUndo,
    m_Refused := PySem.W.mg_of X G g_Refused,
    m_SizeError := PySem.W.mg_of X G g_SizeError,
    m_TooMany := PySem.W.mg_of X G g_TooMany,
    eco := eco,
    x0_Never := x0_Never, kx_Never := kx_Never,
    x0_Endless := x0_Endless, kx_Endless := kx_Endless,
    x0_Busy := x0_Busy, kx_Busy := kx_Busy,
    x0_NothingToUndo := x0_NothingToUndo, kx_NothingToUndo := kx_NothingToUndo,
    z_ArithmeticError := PySem.W.mg_none_of X G z_ArithmeticError,
    z_LookupError := PySem.W.mg_none_of X G z_LookupError,
    z_ValueError := PySem.W.mg_none_of X G z_ValueError,
    z_abs := PySem.W.mg_none_of X G z_abs,
    z_all := PySem.W.mg_none_of X G z_all,
    z_int := PySem.W.mg_none_of X G z_int,
    z_isinstance := PySem.W.mg_none_of X G z_isinstance,
    z_len := PySem.W.mg_none_of X G z_len,
    z_max := PySem.W.mg_none_of X G z_max,
    z_min := PySem.W.mg_none_of X G z_min,
    z_range := PySem.W.mg_none_of X G z_range,
    z_repr := PySem.W.mg_none_of X G z_repr,
    v_MOST_CONSTANT := ⟨_, PySem.W.mg_of X G v_MOST_CONSTANT, ⟨_, rfl⟩⟩,
    v_MOST_DEEDS := ⟨_, PySem.W.mg_of X G v_MOST_DEEDS, ⟨_, rfl⟩⟩,
    v_MOST_DEPTH := ⟨_, PySem.W.mg_of X G v_MOST_DEPTH, ⟨_, rfl⟩⟩,
    v_MOST_LENGTH := ⟨_, PySem.W.mg_of X G v_MOST_LENGTH, ⟨_, rfl⟩⟩,
    v_MOST_MACHINE := ⟨_, PySem.W.mg_of X G v_MOST_MACHINE, ⟨_, rfl⟩⟩,
    v_MOST_NAMES := ⟨_, PySem.W.mg_of X G v_MOST_NAMES, ⟨_, rfl⟩⟩,
    v_MOST_NUMBER := ⟨_, PySem.W.mg_of X G v_MOST_NUMBER, ⟨_, rfl⟩⟩,
    v_MOST_PARTS := ⟨_, PySem.W.mg_of X G v_MOST_PARTS, ⟨_, rfl⟩⟩,
    v_MOST_ROWS := ⟨_, PySem.W.mg_of X G v_MOST_ROWS, ⟨_, rfl⟩⟩,
    v_MOST_SAYINGS := ⟨_, PySem.W.mg_of X G v_MOST_SAYINGS, ⟨_, rfl⟩⟩,
    v_MOST_STANDS := ⟨_, PySem.W.mg_of X G v_MOST_STANDS, ⟨_, rfl⟩⟩,
    v_MOST_STEP := ⟨_, PySem.W.mg_of X G v_MOST_STEP, ⟨_, rfl⟩⟩,
    v_MOST_TERM := ⟨_, PySem.W.mg_of X G v_MOST_TERM, ⟨_, rfl⟩⟩,
    v_MOST_WISHES := ⟨_, PySem.W.mg_of X G v_MOST_WISHES, ⟨_, rfl⟩⟩,
    ty := ty }
  exact ⟨_, fun s v => .of_eq rfl, fun base _ _ => ok_law T ⟨⟩⟩
end Lw
open PySem PySem.W PyProof.Rows
set_option maxRecDepth 100000 in
set_option maxHeartbeats 0 in
open PySem PySem.W PySem.Calls PyProof.Rows HeadRun in
local macro_rules | `(tactic| o_head $H:term) => `(tactic| (
  refine PySem.W.holds_open (r := PySem.W.OpenLaw.row PySem.Challenge.rw_goldenrows_k12_errors_and_limits) (q := Lw.vw) (loose := Lw.lo) (Xt := fun s => PySem.W.xlAt Lw.vw Lw.lv s && PySem.W.recOk (PySem.W.RowW.records (PySem.W.OpenRow.toRowW (PySem.W.OpenLaw.row PySem.Challenge.rw_goldenrows_k12_errors_and_limits))) s) (XP := PySem.W.XL Lw.vw Lw.lv) (Yf := PySem.W.Hook.obs $H) (Ya := PySem.W.Hook.val $H) (YP := PySem.W.Hook.says $H) (d := Lw.dd) (kwd := []) (N := 18304) ?hl (PySem.W.Hook.of $H) (PySem.W.Hook.keeps $H) (fun s e => PySem.W.xl_of s (Bool.and_eq_true_iff.mp e).1) PySem.W.XL.keeps Lw.c1 Lw.c2 Lw.c3 (fun s e => PySem.W.recFacts_of (Bool.and_eq_true_iff.mp e).2) Lw.c4 (by first | assumption | decide +kernel) Lw.c5 Lw.c6 ?hw ?hc
  case hl => exact DL.left_looksK (R := Lw.gR) Lw.c7 (by rfl) Lw.c8 (by rfl) Lw.run1 Lw.ch (fun _ _ => rfl) Lw.hA Lw.hB Lw.hC Lw.hD Lw.hE Lw.hF Lw.hG Lw.hH Lw.hI Lw.hJ (fun w os => by kernel_rfl)))
theorem PySem.Challenge.cw_goldenrows_k12_errors_and_limits_holds : PySem.Challenge.rw_goldenrows_k12_errors_and_limits.Holds := by
  w_on; o_law; k_head; (case hw => w_witness2)
  k_fill
  refine DL.walkGD (l := PySem.Challenge.rw_goldenrows_k12_errors_and_limits) (k := 5) (x := "_law_cells") rfl rfl ⟨rfl, by decide, by decide⟩ (fun w h Y => PySem.W.kIn_of Y) ?F
  case F =>
    intro w mg fa h KX G hmg
    refine' Lw.all_mk KX G hmg ?g_ShapeError ?g_InvalidStep ?g_InvalidNumber ?g_InvalidNumbers ?g_InvalidDigits ?g_InvalidMoves ?g_InvalidSigns ?g_InvalidRule ?g_InvalidName ?g_InvalidWish ?g_InvalidText ?g_InvalidRows ?g_InvalidSayings ?g_InvalidGood ?g_InvalidGuards ?g_InvalidDeed ?g_InvalidLine ?g_NotASystem ?g_NotARow ?g_NotAWish ?g_NotABook ?g_NotAMachine ?g_QuestionError ?g_OtherSystem ?g_OtherNames ?g_UnknownRow ?g_UnknownSaying ?g_Never ?g_Endless ?g_TooFew ?g_Busy ?g_NothingToUndo ?g_Refused ?g_SizeError ?g_TooMany ?a_Refused_init ?l_Refused_init ?c_Refused_init ?k_Refused_init ?i_Refused_init ?a_OtherSystem_init ?l_OtherSystem_init ?c_OtherSystem_init ?k_OtherSystem_init ?i_OtherSystem_init ?a_OtherNames_init ?l_OtherNames_init ?c_OtherNames_init ?k_OtherNames_init ?i_OtherNames_init ?a_TooFew_init ?l_TooFew_init ?c_TooFew_init ?k_TooFew_init ?i_TooFew_init ?a_TooMany_init ?l_TooMany_init ?c_TooMany_init ?k_TooMany_init ?i_TooMany_init ?a_law_classes ?l_law_classes ?c_law_classes ?k_law_classes ?a_law_is ?l_law_is ?c_law_is ?k_law_is ?a_law_others_right ?l_law_others_right ?c_law_others_right ?k_law_others_right ?a_law_draw ?l_law_draw ?c_law_draw ?k_law_draw ?a_law_one ?l_law_one ?c_law_one ?k_law_one ?a_InvalidStep_init ?l_InvalidStep_init ?c_InvalidStep_init ?k_InvalidStep_init ?i_InvalidStep_init ?a_InvalidNumber_init ?l_InvalidNumber_init ?c_InvalidNumber_init ?k_InvalidNumber_init ?i_InvalidNumber_init ?a_InvalidNumbers_init ?l_InvalidNumbers_init ?c_InvalidNumbers_init ?k_InvalidNumbers_init ?i_InvalidNumbers_init ?a_InvalidDigits_init ?l_InvalidDigits_init ?c_InvalidDigits_init ?k_InvalidDigits_init ?i_InvalidDigits_init ?a_InvalidMoves_init ?l_InvalidMoves_init ?c_InvalidMoves_init ?k_InvalidMoves_init ?i_InvalidMoves_init ?a_InvalidSigns_init ?l_InvalidSigns_init ?c_InvalidSigns_init ?k_InvalidSigns_init ?i_InvalidSigns_init ?a_InvalidName_init ?l_InvalidName_init ?c_InvalidName_init ?k_InvalidName_init ?i_InvalidName_init ?a_InvalidWish_init ?l_InvalidWish_init ?c_InvalidWish_init ?k_InvalidWish_init ?i_InvalidWish_init ?a_InvalidText_init ?l_InvalidText_init ?c_InvalidText_init ?k_InvalidText_init ?i_InvalidText_init ?a_InvalidGood_init ?l_InvalidGood_init ?c_InvalidGood_init ?k_InvalidGood_init ?i_InvalidGood_init ?a_InvalidLine_init ?l_InvalidLine_init ?c_InvalidLine_init ?k_InvalidLine_init ?i_InvalidLine_init ?a_NotASystem_init ?l_NotASystem_init ?c_NotASystem_init ?k_NotASystem_init ?i_NotASystem_init ?a_NotARow_init ?l_NotARow_init ?c_NotARow_init ?k_NotARow_init ?i_NotARow_init ?a_NotAWish_init ?l_NotAWish_init ?c_NotAWish_init ?k_NotAWish_init ?i_NotAWish_init ?a_NotABook_init ?l_NotABook_init ?c_NotABook_init ?k_NotABook_init ?i_NotABook_init ?a_NotAMachine_init ?l_NotAMachine_init ?c_NotAMachine_init ?k_NotAMachine_init ?i_NotAMachine_init ?a_UnknownRow_init ?l_UnknownRow_init ?c_UnknownRow_init ?k_UnknownRow_init ?i_UnknownRow_init ?a_UnknownSaying_init ?l_UnknownSaying_init ?c_UnknownSaying_init ?k_UnknownSaying_init ?i_UnknownSaying_init ?a_law_values ?l_law_values ?c_law_values ?k_law_values ?a_InvalidRule_init ?l_InvalidRule_init ?c_InvalidRule_init ?k_InvalidRule_init ?i_InvalidRule_init ?a_InvalidRows_init ?l_InvalidRows_init ?c_InvalidRows_init ?k_InvalidRows_init ?i_InvalidRows_init ?a_InvalidSayings_init ?l_InvalidSayings_init ?c_InvalidSayings_init ?k_InvalidSayings_init ?i_InvalidSayings_init ?a_InvalidGuards_init ?l_InvalidGuards_init ?c_InvalidGuards_init ?k_InvalidGuards_init ?i_InvalidGuards_init ?a_InvalidDeed_init ?l_InvalidDeed_init ?c_InvalidDeed_init ?k_InvalidDeed_init ?i_InvalidDeed_init ?a_law_indexes ?l_law_indexes ?c_law_indexes ?k_law_indexes ?a_law_right ?l_law_right ?c_law_right ?k_law_right ?a_law_bag ?l_law_bag ?c_law_bag ?k_law_bag ?a_law ?l_law ?c_law ?k_law ?ci_ShapeError ?cm_ShapeError ?tp_ShapeError ?ha_ShapeError ?xa_ShapeError ?xg_ShapeError ?xs_ShapeError ?xd_ShapeError ?mo_ShapeError ?nf_ShapeError_deed ?nf_ShapeError_shown ?nf_ShapeError_given ?nf_ShapeError_many ?nf_ShapeError_limit ?nf_ShapeError_value ?nf_ShapeError_index ?ci_InvalidStep ?cm_InvalidStep ?tp_InvalidStep ?ha_InvalidStep ?xa_InvalidStep ?xg_InvalidStep ?xs_InvalidStep ?xd_InvalidStep ?mo_InvalidStep ?nf_InvalidStep_deed ?nf_InvalidStep_shown ?nf_InvalidStep_given ?nf_InvalidStep_many ?nf_InvalidStep_limit ?nf_InvalidStep_value ?nf_InvalidStep_index ?ox_InvalidStep ?rv_InvalidStep ?sa_InvalidStep ?sx_InvalidStep ?kc_InvalidStep ?ci_InvalidNumber ?cm_InvalidNumber ?tp_InvalidNumber ?ha_InvalidNumber ?xa_InvalidNumber ?xg_InvalidNumber ?xs_InvalidNumber ?xd_InvalidNumber ?mo_InvalidNumber ?nf_InvalidNumber_deed ?nf_InvalidNumber_shown ?nf_InvalidNumber_given ?nf_InvalidNumber_many ?nf_InvalidNumber_limit ?nf_InvalidNumber_value ?nf_InvalidNumber_index ?ox_InvalidNumber ?rv_InvalidNumber ?sa_InvalidNumber ?sx_InvalidNumber ?kc_InvalidNumber ?ci_InvalidNumbers ?cm_InvalidNumbers ?tp_InvalidNumbers ?ha_InvalidNumbers ?xa_InvalidNumbers ?xg_InvalidNumbers ?xs_InvalidNumbers ?xd_InvalidNumbers ?mo_InvalidNumbers ?nf_InvalidNumbers_deed ?nf_InvalidNumbers_shown ?nf_InvalidNumbers_given ?nf_InvalidNumbers_many ?nf_InvalidNumbers_limit ?nf_InvalidNumbers_value ?nf_InvalidNumbers_index ?ox_InvalidNumbers ?rv_InvalidNumbers ?sa_InvalidNumbers ?sx_InvalidNumbers ?kc_InvalidNumbers ?ci_InvalidDigits ?cm_InvalidDigits ?tp_InvalidDigits ?ha_InvalidDigits ?xa_InvalidDigits ?xg_InvalidDigits ?xs_InvalidDigits ?xd_InvalidDigits ?mo_InvalidDigits ?nf_InvalidDigits_deed ?nf_InvalidDigits_shown ?nf_InvalidDigits_given ?nf_InvalidDigits_many ?nf_InvalidDigits_limit ?nf_InvalidDigits_value ?nf_InvalidDigits_index ?ox_InvalidDigits ?rv_InvalidDigits ?sa_InvalidDigits ?sx_InvalidDigits ?kc_InvalidDigits ?ci_InvalidMoves ?cm_InvalidMoves ?tp_InvalidMoves ?ha_InvalidMoves ?xa_InvalidMoves ?xg_InvalidMoves ?xs_InvalidMoves ?xd_InvalidMoves ?mo_InvalidMoves ?nf_InvalidMoves_deed ?nf_InvalidMoves_shown ?nf_InvalidMoves_given ?nf_InvalidMoves_many ?nf_InvalidMoves_limit ?nf_InvalidMoves_value ?nf_InvalidMoves_index ?ox_InvalidMoves ?rv_InvalidMoves ?sa_InvalidMoves ?sx_InvalidMoves ?kc_InvalidMoves ?ci_InvalidSigns ?cm_InvalidSigns ?tp_InvalidSigns ?ha_InvalidSigns ?xa_InvalidSigns ?xg_InvalidSigns ?xs_InvalidSigns ?xd_InvalidSigns ?mo_InvalidSigns ?nf_InvalidSigns_deed ?nf_InvalidSigns_shown ?nf_InvalidSigns_given ?nf_InvalidSigns_many ?nf_InvalidSigns_limit ?nf_InvalidSigns_value ?nf_InvalidSigns_index ?ox_InvalidSigns ?rv_InvalidSigns ?sa_InvalidSigns ?sx_InvalidSigns ?kc_InvalidSigns ?ci_InvalidRule ?cm_InvalidRule ?tp_InvalidRule ?ha_InvalidRule ?xa_InvalidRule ?xg_InvalidRule ?xs_InvalidRule ?xd_InvalidRule ?mo_InvalidRule ?nf_InvalidRule_deed ?nf_InvalidRule_shown ?nf_InvalidRule_given ?nf_InvalidRule_many ?nf_InvalidRule_limit ?nf_InvalidRule_value ?nf_InvalidRule_index ?ox_InvalidRule ?rv_InvalidRule ?sa_InvalidRule ?sx_InvalidRule ?kc_InvalidRule ?ci_InvalidName ?cm_InvalidName ?tp_InvalidName ?ha_InvalidName ?xa_InvalidName ?xg_InvalidName ?xs_InvalidName ?xd_InvalidName ?mo_InvalidName ?nf_InvalidName_deed ?nf_InvalidName_shown ?nf_InvalidName_given ?nf_InvalidName_many ?nf_InvalidName_limit ?nf_InvalidName_value ?nf_InvalidName_index ?ox_InvalidName ?rv_InvalidName ?sa_InvalidName ?sx_InvalidName ?kc_InvalidName ?ci_InvalidWish ?cm_InvalidWish ?tp_InvalidWish ?ha_InvalidWish ?xa_InvalidWish ?xg_InvalidWish ?xs_InvalidWish ?xd_InvalidWish ?mo_InvalidWish ?nf_InvalidWish_deed ?nf_InvalidWish_shown ?nf_InvalidWish_given ?nf_InvalidWish_many ?nf_InvalidWish_limit ?nf_InvalidWish_value ?nf_InvalidWish_index ?ox_InvalidWish ?rv_InvalidWish ?sa_InvalidWish ?sx_InvalidWish ?kc_InvalidWish ?ci_InvalidText ?cm_InvalidText ?tp_InvalidText ?ha_InvalidText ?xa_InvalidText ?xg_InvalidText ?xs_InvalidText ?xd_InvalidText ?mo_InvalidText ?nf_InvalidText_deed ?nf_InvalidText_shown ?nf_InvalidText_given ?nf_InvalidText_many ?nf_InvalidText_limit ?nf_InvalidText_value ?nf_InvalidText_index ?ox_InvalidText ?rv_InvalidText ?sa_InvalidText ?sx_InvalidText ?kc_InvalidText ?ci_InvalidRows ?cm_InvalidRows ?tp_InvalidRows ?ha_InvalidRows ?xa_InvalidRows ?xg_InvalidRows ?xs_InvalidRows ?xd_InvalidRows ?mo_InvalidRows ?nf_InvalidRows_deed ?nf_InvalidRows_shown ?nf_InvalidRows_given ?nf_InvalidRows_many ?nf_InvalidRows_limit ?nf_InvalidRows_value ?nf_InvalidRows_index ?ox_InvalidRows ?rv_InvalidRows ?sa_InvalidRows ?sx_InvalidRows ?kc_InvalidRows ?ci_InvalidSayings ?cm_InvalidSayings ?tp_InvalidSayings ?ha_InvalidSayings ?xa_InvalidSayings ?xg_InvalidSayings ?xs_InvalidSayings ?xd_InvalidSayings ?mo_InvalidSayings ?nf_InvalidSayings_deed ?nf_InvalidSayings_shown ?nf_InvalidSayings_given ?nf_InvalidSayings_many ?nf_InvalidSayings_limit ?nf_InvalidSayings_value ?nf_InvalidSayings_index ?ox_InvalidSayings ?rv_InvalidSayings ?sa_InvalidSayings ?sx_InvalidSayings ?kc_InvalidSayings ?ci_InvalidGood ?cm_InvalidGood ?tp_InvalidGood ?ha_InvalidGood ?xa_InvalidGood ?xg_InvalidGood ?xs_InvalidGood ?xd_InvalidGood ?mo_InvalidGood ?nf_InvalidGood_deed ?nf_InvalidGood_shown ?nf_InvalidGood_given ?nf_InvalidGood_many ?nf_InvalidGood_limit ?nf_InvalidGood_value ?nf_InvalidGood_index ?ox_InvalidGood ?rv_InvalidGood ?sa_InvalidGood ?sx_InvalidGood ?kc_InvalidGood ?ci_InvalidGuards ?cm_InvalidGuards ?tp_InvalidGuards ?ha_InvalidGuards ?xa_InvalidGuards ?xg_InvalidGuards ?xs_InvalidGuards ?xd_InvalidGuards ?mo_InvalidGuards ?nf_InvalidGuards_deed ?nf_InvalidGuards_shown ?nf_InvalidGuards_given ?nf_InvalidGuards_many ?nf_InvalidGuards_limit ?nf_InvalidGuards_value ?nf_InvalidGuards_index ?ox_InvalidGuards ?rv_InvalidGuards ?sa_InvalidGuards ?sx_InvalidGuards ?kc_InvalidGuards ?ci_InvalidDeed ?cm_InvalidDeed ?tp_InvalidDeed ?ha_InvalidDeed ?xa_InvalidDeed ?xg_InvalidDeed ?xs_InvalidDeed ?xd_InvalidDeed ?mo_InvalidDeed ?nf_InvalidDeed_deed ?nf_InvalidDeed_shown ?nf_InvalidDeed_given ?nf_InvalidDeed_many ?nf_InvalidDeed_limit ?nf_InvalidDeed_value ?nf_InvalidDeed_index ?ox_InvalidDeed ?rv_InvalidDeed ?sa_InvalidDeed ?sx_InvalidDeed ?kc_InvalidDeed ?ci_InvalidLine ?cm_InvalidLine ?tp_InvalidLine ?ha_InvalidLine ?xa_InvalidLine ?xg_InvalidLine ?xs_InvalidLine ?xd_InvalidLine ?mo_InvalidLine ?nf_InvalidLine_deed ?nf_InvalidLine_shown ?nf_InvalidLine_given ?nf_InvalidLine_many ?nf_InvalidLine_limit ?nf_InvalidLine_value ?nf_InvalidLine_index ?ox_InvalidLine ?rv_InvalidLine ?sa_InvalidLine ?sx_InvalidLine ?kc_InvalidLine ?ci_NotASystem ?cm_NotASystem ?tp_NotASystem ?ha_NotASystem ?xa_NotASystem ?xg_NotASystem ?xs_NotASystem ?xd_NotASystem ?mo_NotASystem ?nf_NotASystem_deed ?nf_NotASystem_shown ?nf_NotASystem_given ?nf_NotASystem_many ?nf_NotASystem_limit ?nf_NotASystem_value ?nf_NotASystem_index ?ox_NotASystem ?rv_NotASystem ?sa_NotASystem ?sx_NotASystem ?kc_NotASystem ?ci_NotARow ?cm_NotARow ?tp_NotARow ?ha_NotARow ?xa_NotARow ?xg_NotARow ?xs_NotARow ?xd_NotARow ?mo_NotARow ?nf_NotARow_deed ?nf_NotARow_shown ?nf_NotARow_given ?nf_NotARow_many ?nf_NotARow_limit ?nf_NotARow_value ?nf_NotARow_index ?ox_NotARow ?rv_NotARow ?sa_NotARow ?sx_NotARow ?kc_NotARow ?ci_NotAWish ?cm_NotAWish ?tp_NotAWish ?ha_NotAWish ?xa_NotAWish ?xg_NotAWish ?xs_NotAWish ?xd_NotAWish ?mo_NotAWish ?nf_NotAWish_deed ?nf_NotAWish_shown ?nf_NotAWish_given ?nf_NotAWish_many ?nf_NotAWish_limit ?nf_NotAWish_value ?nf_NotAWish_index ?ox_NotAWish ?rv_NotAWish ?sa_NotAWish ?sx_NotAWish ?kc_NotAWish ?ci_NotABook ?cm_NotABook ?tp_NotABook ?ha_NotABook ?xa_NotABook ?xg_NotABook ?xs_NotABook ?xd_NotABook ?mo_NotABook ?nf_NotABook_deed ?nf_NotABook_shown ?nf_NotABook_given ?nf_NotABook_many ?nf_NotABook_limit ?nf_NotABook_value ?nf_NotABook_index ?ox_NotABook ?rv_NotABook ?sa_NotABook ?sx_NotABook ?kc_NotABook ?ci_NotAMachine ?cm_NotAMachine ?tp_NotAMachine ?ha_NotAMachine ?xa_NotAMachine ?xg_NotAMachine ?xs_NotAMachine ?xd_NotAMachine ?mo_NotAMachine ?nf_NotAMachine_deed ?nf_NotAMachine_shown ?nf_NotAMachine_given ?nf_NotAMachine_many ?nf_NotAMachine_limit ?nf_NotAMachine_value ?nf_NotAMachine_index ?ox_NotAMachine ?rv_NotAMachine ?sa_NotAMachine ?sx_NotAMachine ?kc_NotAMachine ?ci_QuestionError ?cm_QuestionError ?tp_QuestionError ?ha_QuestionError ?xa_QuestionError ?xg_QuestionError ?xs_QuestionError ?xd_QuestionError ?mo_QuestionError ?nf_QuestionError_deed ?nf_QuestionError_shown ?nf_QuestionError_given ?nf_QuestionError_many ?nf_QuestionError_limit ?nf_QuestionError_value ?nf_QuestionError_index ?ci_OtherSystem ?cm_OtherSystem ?tp_OtherSystem ?ha_OtherSystem ?xa_OtherSystem ?xg_OtherSystem ?xs_OtherSystem ?xd_OtherSystem ?mo_OtherSystem ?nf_OtherSystem_deed ?nf_OtherSystem_shown ?nf_OtherSystem_given ?nf_OtherSystem_many ?nf_OtherSystem_limit ?nf_OtherSystem_value ?nf_OtherSystem_index ?ox_OtherSystem ?rv_OtherSystem ?sa_OtherSystem ?sx_OtherSystem ?kc_OtherSystem ?ci_OtherNames ?cm_OtherNames ?tp_OtherNames ?ha_OtherNames ?xa_OtherNames ?xg_OtherNames ?xs_OtherNames ?xd_OtherNames ?mo_OtherNames ?nf_OtherNames_deed ?nf_OtherNames_shown ?nf_OtherNames_given ?nf_OtherNames_many ?nf_OtherNames_limit ?nf_OtherNames_value ?nf_OtherNames_index ?ox_OtherNames ?rv_OtherNames ?sa_OtherNames ?sx_OtherNames ?kc_OtherNames ?ci_UnknownRow ?cm_UnknownRow ?tp_UnknownRow ?ha_UnknownRow ?xa_UnknownRow ?xg_UnknownRow ?xs_UnknownRow ?xd_UnknownRow ?mo_UnknownRow ?nf_UnknownRow_deed ?nf_UnknownRow_shown ?nf_UnknownRow_given ?nf_UnknownRow_many ?nf_UnknownRow_limit ?nf_UnknownRow_value ?nf_UnknownRow_index ?ox_UnknownRow ?rv_UnknownRow ?sa_UnknownRow ?sx_UnknownRow ?kc_UnknownRow ?ci_UnknownSaying ?cm_UnknownSaying ?tp_UnknownSaying ?ha_UnknownSaying ?xa_UnknownSaying ?xg_UnknownSaying ?xs_UnknownSaying ?xd_UnknownSaying ?mo_UnknownSaying ?nf_UnknownSaying_deed ?nf_UnknownSaying_shown ?nf_UnknownSaying_given ?nf_UnknownSaying_many ?nf_UnknownSaying_limit ?nf_UnknownSaying_value ?nf_UnknownSaying_index ?ox_UnknownSaying ?rv_UnknownSaying ?sa_UnknownSaying ?sx_UnknownSaying ?kc_UnknownSaying ?ci_Never ?cm_Never ?tp_Never ?ha_Never ?xa_Never ?xg_Never ?xs_Never ?xd_Never ?mo_Never ?nf_Never_deed ?nf_Never_shown ?nf_Never_given ?nf_Never_many ?nf_Never_limit ?nf_Never_value ?nf_Never_index ?ci_Endless ?cm_Endless ?tp_Endless ?ha_Endless ?xa_Endless ?xg_Endless ?xs_Endless ?xd_Endless ?mo_Endless ?nf_Endless_deed ?nf_Endless_shown ?nf_Endless_given ?nf_Endless_many ?nf_Endless_limit ?nf_Endless_value ?nf_Endless_index ?ci_TooFew ?cm_TooFew ?tp_TooFew ?ha_TooFew ?xa_TooFew ?xg_TooFew ?xs_TooFew ?xd_TooFew ?mo_TooFew ?nf_TooFew_deed ?nf_TooFew_shown ?nf_TooFew_given ?nf_TooFew_many ?nf_TooFew_limit ?nf_TooFew_value ?nf_TooFew_index ?ox_TooFew ?rv_TooFew ?sa_TooFew ?sx_TooFew ?kc_TooFew ?ci_Busy ?cm_Busy ?tp_Busy ?ha_Busy ?xa_Busy ?xg_Busy ?xs_Busy ?xd_Busy ?mo_Busy ?nf_Busy_deed ?nf_Busy_shown ?nf_Busy_given ?nf_Busy_many ?nf_Busy_limit ?nf_Busy_value ?nf_Busy_index ?ci_NothingToUndo ?cm_NothingToUndo ?tp_NothingToUndo ?ha_NothingToUndo ?xa_NothingToUndo ?xg_NothingToUndo ?xs_NothingToUndo ?xd_NothingToUndo ?mo_NothingToUndo ?nf_NothingToUndo_deed ?nf_NothingToUndo_shown ?nf_NothingToUndo_given ?nf_NothingToUndo_many ?nf_NothingToUndo_limit ?nf_NothingToUndo_value ?nf_NothingToUndo_index ?ci_Refused ?cm_Refused ?tp_Refused ?ha_Refused ?xa_Refused ?xg_Refused ?xs_Refused ?xd_Refused ?mo_Refused ?nf_Refused_deed ?nf_Refused_shown ?nf_Refused_given ?nf_Refused_many ?nf_Refused_limit ?nf_Refused_value ?nf_Refused_index ?ox_Refused ?rv_Refused ?sa_Refused ?sx_Refused ?kc_Refused ?ci_SizeError ?cm_SizeError ?tp_SizeError ?ha_SizeError ?xa_SizeError ?xg_SizeError ?xs_SizeError ?xd_SizeError ?mo_SizeError ?nf_SizeError_deed ?nf_SizeError_shown ?nf_SizeError_given ?nf_SizeError_many ?nf_SizeError_limit ?nf_SizeError_value ?nf_SizeError_index ?ci_TooMany ?cm_TooMany ?tp_TooMany ?ha_TooMany ?xa_TooMany ?xg_TooMany ?xs_TooMany ?xd_TooMany ?mo_TooMany ?nf_TooMany_deed ?nf_TooMany_shown ?nf_TooMany_given ?nf_TooMany_many ?nf_TooMany_limit ?nf_TooMany_value ?nf_TooMany_index ?ox_TooMany ?rv_TooMany ?sa_TooMany ?sx_TooMany ?kc_TooMany ?x0_Never ?kx_Never ?x0_Endless ?kx_Endless ?x0_Busy ?kx_Busy ?x0_NothingToUndo ?kx_NothingToUndo ?ndp ?oc_hn ?oc_tk ?z_ArithmeticError ?z_LookupError ?z_ValueError ?z_abs ?z_all ?z_int ?z_isinstance ?z_len ?z_max ?z_min ?z_range ?z_repr ?v_MOST_CONSTANT ?v_MOST_DEEDS ?v_MOST_DEPTH ?v_MOST_LENGTH ?v_MOST_MACHINE ?v_MOST_NAMES ?v_MOST_NUMBER ?v_MOST_PARTS ?v_MOST_ROWS ?v_MOST_SAYINGS ?v_MOST_STANDS ?v_MOST_STEP ?v_MOST_TERM ?v_MOST_WISHES
    (case g_ShapeError => k_is)
    (case g_InvalidStep => k_is)
    (case g_InvalidNumber => k_is)
    (case g_InvalidNumbers => k_is)
    (case g_InvalidDigits => k_is)
    (case g_InvalidMoves => k_is)
    (case g_InvalidSigns => k_is)
    (case g_InvalidRule => k_is)
    (case g_InvalidName => k_is)
    (case g_InvalidWish => k_is)
    (case g_InvalidText => k_is)
    (case g_InvalidRows => k_is)
    (case g_InvalidSayings => k_is)
    (case g_InvalidGood => k_is)
    (case g_InvalidGuards => k_is)
    (case g_InvalidDeed => k_is)
    (case g_InvalidLine => k_is)
    (case g_NotASystem => k_is)
    (case g_NotARow => k_is)
    (case g_NotAWish => k_is)
    (case g_NotABook => k_is)
    (case g_NotAMachine => k_is)
    (case g_QuestionError => k_is)
    (case g_OtherSystem => k_is)
    (case g_OtherNames => k_is)
    (case g_UnknownRow => k_is)
    (case g_UnknownSaying => k_is)
    (case g_Never => k_is)
    (case g_Endless => k_is)
    (case g_TooFew => k_is)
    (case g_Busy => k_is)
    (case g_NothingToUndo => k_is)
    (case g_Refused => k_is)
    (case g_SizeError => k_is)
    (case g_TooMany => k_is)
    (case a_Refused_init => k_is)
    (case l_Refused_init => k_is)
    (case c_Refused_init => k_is)
    (case k_Refused_init => k_is)
    (case i_Refused_init => k_is)
    (case a_OtherSystem_init => k_is)
    (case l_OtherSystem_init => k_is)
    (case c_OtherSystem_init => k_is)
    (case k_OtherSystem_init => k_is)
    (case i_OtherSystem_init => k_is)
    (case a_OtherNames_init => k_is)
    (case l_OtherNames_init => k_is)
    (case c_OtherNames_init => k_is)
    (case k_OtherNames_init => k_is)
    (case i_OtherNames_init => k_is)
    (case a_TooFew_init => k_is)
    (case l_TooFew_init => k_is)
    (case c_TooFew_init => k_is)
    (case k_TooFew_init => k_is)
    (case i_TooFew_init => k_is)
    (case a_TooMany_init => k_is)
    (case l_TooMany_init => k_is)
    (case c_TooMany_init => k_is)
    (case k_TooMany_init => k_is)
    (case i_TooMany_init => k_is)
    (case a_law_classes => k_is)
    (case l_law_classes => k_is)
    (case c_law_classes => k_is)
    (case k_law_classes => k_is)
    (case a_law_is => k_is)
    (case l_law_is => k_is)
    (case c_law_is => k_is)
    (case k_law_is => k_is)
    (case a_law_others_right => k_is)
    (case l_law_others_right => k_is)
    (case c_law_others_right => k_is)
    (case k_law_others_right => k_is)
    (case a_law_draw => k_is)
    (case l_law_draw => k_is)
    (case c_law_draw => k_is)
    (case k_law_draw => k_is)
    (case a_law_one => k_is)
    (case l_law_one => k_is)
    (case c_law_one => k_is)
    (case k_law_one => k_is)
    (case a_InvalidStep_init => k_is)
    (case l_InvalidStep_init => k_is)
    (case c_InvalidStep_init => k_is)
    (case k_InvalidStep_init => k_is)
    (case i_InvalidStep_init => k_is)
    (case a_InvalidNumber_init => k_is)
    (case l_InvalidNumber_init => k_is)
    (case c_InvalidNumber_init => k_is)
    (case k_InvalidNumber_init => k_is)
    (case i_InvalidNumber_init => k_is)
    (case a_InvalidNumbers_init => k_is)
    (case l_InvalidNumbers_init => k_is)
    (case c_InvalidNumbers_init => k_is)
    (case k_InvalidNumbers_init => k_is)
    (case i_InvalidNumbers_init => k_is)
    (case a_InvalidDigits_init => k_is)
    (case l_InvalidDigits_init => k_is)
    (case c_InvalidDigits_init => k_is)
    (case k_InvalidDigits_init => k_is)
    (case i_InvalidDigits_init => k_is)
    (case a_InvalidMoves_init => k_is)
    (case l_InvalidMoves_init => k_is)
    (case c_InvalidMoves_init => k_is)
    (case k_InvalidMoves_init => k_is)
    (case i_InvalidMoves_init => k_is)
    (case a_InvalidSigns_init => k_is)
    (case l_InvalidSigns_init => k_is)
    (case c_InvalidSigns_init => k_is)
    (case k_InvalidSigns_init => k_is)
    (case i_InvalidSigns_init => k_is)
    (case a_InvalidName_init => k_is)
    (case l_InvalidName_init => k_is)
    (case c_InvalidName_init => k_is)
    (case k_InvalidName_init => k_is)
    (case i_InvalidName_init => k_is)
    (case a_InvalidWish_init => k_is)
    (case l_InvalidWish_init => k_is)
    (case c_InvalidWish_init => k_is)
    (case k_InvalidWish_init => k_is)
    (case i_InvalidWish_init => k_is)
    (case a_InvalidText_init => k_is)
    (case l_InvalidText_init => k_is)
    (case c_InvalidText_init => k_is)
    (case k_InvalidText_init => k_is)
    (case i_InvalidText_init => k_is)
    (case a_InvalidGood_init => k_is)
    (case l_InvalidGood_init => k_is)
    (case c_InvalidGood_init => k_is)
    (case k_InvalidGood_init => k_is)
    (case i_InvalidGood_init => k_is)
    (case a_InvalidLine_init => k_is)
    (case l_InvalidLine_init => k_is)
    (case c_InvalidLine_init => k_is)
    (case k_InvalidLine_init => k_is)
    (case i_InvalidLine_init => k_is)
    (case a_NotASystem_init => k_is)
    (case l_NotASystem_init => k_is)
    (case c_NotASystem_init => k_is)
    (case k_NotASystem_init => k_is)
    (case i_NotASystem_init => k_is)
    (case a_NotARow_init => k_is)
    (case l_NotARow_init => k_is)
    (case c_NotARow_init => k_is)
    (case k_NotARow_init => k_is)
    (case i_NotARow_init => k_is)
    (case a_NotAWish_init => k_is)
    (case l_NotAWish_init => k_is)
    (case c_NotAWish_init => k_is)
    (case k_NotAWish_init => k_is)
    (case i_NotAWish_init => k_is)
    (case a_NotABook_init => k_is)
    (case l_NotABook_init => k_is)
    (case c_NotABook_init => k_is)
    (case k_NotABook_init => k_is)
    (case i_NotABook_init => k_is)
    (case a_NotAMachine_init => k_is)
    (case l_NotAMachine_init => k_is)
    (case c_NotAMachine_init => k_is)
    (case k_NotAMachine_init => k_is)
    (case i_NotAMachine_init => k_is)
    (case a_UnknownRow_init => k_is)
    (case l_UnknownRow_init => k_is)
    (case c_UnknownRow_init => k_is)
    (case k_UnknownRow_init => k_is)
    (case i_UnknownRow_init => k_is)
    (case a_UnknownSaying_init => k_is)
    (case l_UnknownSaying_init => k_is)
    (case c_UnknownSaying_init => k_is)
    (case k_UnknownSaying_init => k_is)
    (case i_UnknownSaying_init => k_is)
    (case a_law_values => k_is)
    (case l_law_values => k_is)
    (case c_law_values => k_is)
    (case k_law_values => k_is)
    (case a_InvalidRule_init => k_is)
    (case l_InvalidRule_init => k_is)
    (case c_InvalidRule_init => k_is)
    (case k_InvalidRule_init => k_is)
    (case i_InvalidRule_init => k_is)
    (case a_InvalidRows_init => k_is)
    (case l_InvalidRows_init => k_is)
    (case c_InvalidRows_init => k_is)
    (case k_InvalidRows_init => k_is)
    (case i_InvalidRows_init => k_is)
    (case a_InvalidSayings_init => k_is)
    (case l_InvalidSayings_init => k_is)
    (case c_InvalidSayings_init => k_is)
    (case k_InvalidSayings_init => k_is)
    (case i_InvalidSayings_init => k_is)
    (case a_InvalidGuards_init => k_is)
    (case l_InvalidGuards_init => k_is)
    (case c_InvalidGuards_init => k_is)
    (case k_InvalidGuards_init => k_is)
    (case i_InvalidGuards_init => k_is)
    (case a_InvalidDeed_init => k_is)
    (case l_InvalidDeed_init => k_is)
    (case c_InvalidDeed_init => k_is)
    (case k_InvalidDeed_init => k_is)
    (case i_InvalidDeed_init => k_is)
    (case a_law_indexes => k_is)
    (case l_law_indexes => k_is)
    (case c_law_indexes => k_is)
    (case k_law_indexes => k_is)
    (case a_law_right => k_is)
    (case l_law_right => k_is)
    (case c_law_right => k_is)
    (case k_law_right => k_is)
    (case a_law_bag => k_is)
    (case l_law_bag => k_is)
    (case c_law_bag => k_is)
    (case k_law_bag => k_is)
    (case a_law => k_is)
    (case l_law => k_is)
    (case c_law => k_is)
    (case k_law => k_is)
    (case ci_ShapeError => k_is)
    (case cm_ShapeError => rfl)
    (case tp_ShapeError => k_is)
    (case ha_ShapeError => k_is)
    (case xa_ShapeError => k_is)
    (case xg_ShapeError => k_is)
    (case xs_ShapeError => k_is)
    (case xd_ShapeError => k_is)
    (case mo_ShapeError => k_is)
    (case nf_ShapeError_deed => k_is)
    (case nf_ShapeError_shown => k_is)
    (case nf_ShapeError_given => k_is)
    (case nf_ShapeError_many => k_is)
    (case nf_ShapeError_limit => k_is)
    (case nf_ShapeError_value => k_is)
    (case nf_ShapeError_index => k_is)
    (case ci_InvalidStep => k_is)
    (case cm_InvalidStep => rfl)
    (case tp_InvalidStep => k_is)
    (case ha_InvalidStep => k_is)
    (case xa_InvalidStep => k_is)
    (case xg_InvalidStep => k_is)
    (case xs_InvalidStep => k_is)
    (case xd_InvalidStep => k_is)
    (case mo_InvalidStep => k_is)
    (case nf_InvalidStep_deed => k_is)
    (case nf_InvalidStep_shown => k_is)
    (case nf_InvalidStep_given => k_is)
    (case nf_InvalidStep_many => k_is)
    (case nf_InvalidStep_limit => k_is)
    (case nf_InvalidStep_value => k_is)
    (case nf_InvalidStep_index => k_is)
    (case ox_InvalidStep => k_is)
    (case rv_InvalidStep => kernel_rfl)
    (case sa_InvalidStep => k_is)
    (case sx_InvalidStep => k_is)
    (case kc_InvalidStep => k_is)
    (case ci_InvalidNumber => k_is)
    (case cm_InvalidNumber => rfl)
    (case tp_InvalidNumber => k_is)
    (case ha_InvalidNumber => k_is)
    (case xa_InvalidNumber => k_is)
    (case xg_InvalidNumber => k_is)
    (case xs_InvalidNumber => k_is)
    (case xd_InvalidNumber => k_is)
    (case mo_InvalidNumber => k_is)
    (case nf_InvalidNumber_deed => k_is)
    (case nf_InvalidNumber_shown => k_is)
    (case nf_InvalidNumber_given => k_is)
    (case nf_InvalidNumber_many => k_is)
    (case nf_InvalidNumber_limit => k_is)
    (case nf_InvalidNumber_value => k_is)
    (case nf_InvalidNumber_index => k_is)
    (case ox_InvalidNumber => k_is)
    (case rv_InvalidNumber => kernel_rfl)
    (case sa_InvalidNumber => k_is)
    (case sx_InvalidNumber => k_is)
    (case kc_InvalidNumber => k_is)
    (case ci_InvalidNumbers => k_is)
    (case cm_InvalidNumbers => rfl)
    (case tp_InvalidNumbers => k_is)
    (case ha_InvalidNumbers => k_is)
    (case xa_InvalidNumbers => k_is)
    (case xg_InvalidNumbers => k_is)
    (case xs_InvalidNumbers => k_is)
    (case xd_InvalidNumbers => k_is)
    (case mo_InvalidNumbers => k_is)
    (case nf_InvalidNumbers_deed => k_is)
    (case nf_InvalidNumbers_shown => k_is)
    (case nf_InvalidNumbers_given => k_is)
    (case nf_InvalidNumbers_many => k_is)
    (case nf_InvalidNumbers_limit => k_is)
    (case nf_InvalidNumbers_value => k_is)
    (case nf_InvalidNumbers_index => k_is)
    (case ox_InvalidNumbers => k_is)
    (case rv_InvalidNumbers => kernel_rfl)
    (case sa_InvalidNumbers => k_is)
    (case sx_InvalidNumbers => k_is)
    (case kc_InvalidNumbers => k_is)
    (case ci_InvalidDigits => k_is)
    (case cm_InvalidDigits => rfl)
    (case tp_InvalidDigits => k_is)
    (case ha_InvalidDigits => k_is)
    (case xa_InvalidDigits => k_is)
    (case xg_InvalidDigits => k_is)
    (case xs_InvalidDigits => k_is)
    (case xd_InvalidDigits => k_is)
    (case mo_InvalidDigits => k_is)
    (case nf_InvalidDigits_deed => k_is)
    (case nf_InvalidDigits_shown => k_is)
    (case nf_InvalidDigits_given => k_is)
    (case nf_InvalidDigits_many => k_is)
    (case nf_InvalidDigits_limit => k_is)
    (case nf_InvalidDigits_value => k_is)
    (case nf_InvalidDigits_index => k_is)
    (case ox_InvalidDigits => k_is)
    (case rv_InvalidDigits => kernel_rfl)
    (case sa_InvalidDigits => k_is)
    (case sx_InvalidDigits => k_is)
    (case kc_InvalidDigits => k_is)
    (case ci_InvalidMoves => k_is)
    (case cm_InvalidMoves => rfl)
    (case tp_InvalidMoves => k_is)
    (case ha_InvalidMoves => k_is)
    (case xa_InvalidMoves => k_is)
    (case xg_InvalidMoves => k_is)
    (case xs_InvalidMoves => k_is)
    (case xd_InvalidMoves => k_is)
    (case mo_InvalidMoves => k_is)
    (case nf_InvalidMoves_deed => k_is)
    (case nf_InvalidMoves_shown => k_is)
    (case nf_InvalidMoves_given => k_is)
    (case nf_InvalidMoves_many => k_is)
    (case nf_InvalidMoves_limit => k_is)
    (case nf_InvalidMoves_value => k_is)
    (case nf_InvalidMoves_index => k_is)
    (case ox_InvalidMoves => k_is)
    (case rv_InvalidMoves => kernel_rfl)
    (case sa_InvalidMoves => k_is)
    (case sx_InvalidMoves => k_is)
    (case kc_InvalidMoves => k_is)
    (case ci_InvalidSigns => k_is)
    (case cm_InvalidSigns => rfl)
    (case tp_InvalidSigns => k_is)
    (case ha_InvalidSigns => k_is)
    (case xa_InvalidSigns => k_is)
    (case xg_InvalidSigns => k_is)
    (case xs_InvalidSigns => k_is)
    (case xd_InvalidSigns => k_is)
    (case mo_InvalidSigns => k_is)
    (case nf_InvalidSigns_deed => k_is)
    (case nf_InvalidSigns_shown => k_is)
    (case nf_InvalidSigns_given => k_is)
    (case nf_InvalidSigns_many => k_is)
    (case nf_InvalidSigns_limit => k_is)
    (case nf_InvalidSigns_value => k_is)
    (case nf_InvalidSigns_index => k_is)
    (case ox_InvalidSigns => k_is)
    (case rv_InvalidSigns => kernel_rfl)
    (case sa_InvalidSigns => k_is)
    (case sx_InvalidSigns => k_is)
    (case kc_InvalidSigns => k_is)
    (case ci_InvalidRule => k_is)
    (case cm_InvalidRule => rfl)
    (case tp_InvalidRule => k_is)
    (case ha_InvalidRule => k_is)
    (case xa_InvalidRule => k_is)
    (case xg_InvalidRule => k_is)
    (case xs_InvalidRule => k_is)
    (case xd_InvalidRule => k_is)
    (case mo_InvalidRule => k_is)
    (case nf_InvalidRule_deed => k_is)
    (case nf_InvalidRule_shown => k_is)
    (case nf_InvalidRule_given => k_is)
    (case nf_InvalidRule_many => k_is)
    (case nf_InvalidRule_limit => k_is)
    (case nf_InvalidRule_value => k_is)
    (case nf_InvalidRule_index => k_is)
    (case ox_InvalidRule => k_is)
    (case rv_InvalidRule => kernel_rfl)
    (case sa_InvalidRule => k_is)
    (case sx_InvalidRule => k_is)
    (case kc_InvalidRule => k_is)
    (case ci_InvalidName => k_is)
    (case cm_InvalidName => rfl)
    (case tp_InvalidName => k_is)
    (case ha_InvalidName => k_is)
    (case xa_InvalidName => k_is)
    (case xg_InvalidName => k_is)
    (case xs_InvalidName => k_is)
    (case xd_InvalidName => k_is)
    (case mo_InvalidName => k_is)
    (case nf_InvalidName_deed => k_is)
    (case nf_InvalidName_shown => k_is)
    (case nf_InvalidName_given => k_is)
    (case nf_InvalidName_many => k_is)
    (case nf_InvalidName_limit => k_is)
    (case nf_InvalidName_value => k_is)
    (case nf_InvalidName_index => k_is)
    (case ox_InvalidName => k_is)
    (case rv_InvalidName => kernel_rfl)
    (case sa_InvalidName => k_is)
    (case sx_InvalidName => k_is)
    (case kc_InvalidName => k_is)
    (case ci_InvalidWish => k_is)
    (case cm_InvalidWish => rfl)
    (case tp_InvalidWish => k_is)
    (case ha_InvalidWish => k_is)
    (case xa_InvalidWish => k_is)
    (case xg_InvalidWish => k_is)
    (case xs_InvalidWish => k_is)
    (case xd_InvalidWish => k_is)
    (case mo_InvalidWish => k_is)
    (case nf_InvalidWish_deed => k_is)
    (case nf_InvalidWish_shown => k_is)
    (case nf_InvalidWish_given => k_is)
    (case nf_InvalidWish_many => k_is)
    (case nf_InvalidWish_limit => k_is)
    (case nf_InvalidWish_value => k_is)
    (case nf_InvalidWish_index => k_is)
    (case ox_InvalidWish => k_is)
    (case rv_InvalidWish => kernel_rfl)
    (case sa_InvalidWish => k_is)
    (case sx_InvalidWish => k_is)
    (case kc_InvalidWish => k_is)
    (case ci_InvalidText => k_is)
    (case cm_InvalidText => rfl)
    (case tp_InvalidText => k_is)
    (case ha_InvalidText => k_is)
    (case xa_InvalidText => k_is)
    (case xg_InvalidText => k_is)
    (case xs_InvalidText => k_is)
    (case xd_InvalidText => k_is)
    (case mo_InvalidText => k_is)
    (case nf_InvalidText_deed => k_is)
    (case nf_InvalidText_shown => k_is)
    (case nf_InvalidText_given => k_is)
    (case nf_InvalidText_many => k_is)
    (case nf_InvalidText_limit => k_is)
    (case nf_InvalidText_value => k_is)
    (case nf_InvalidText_index => k_is)
    (case ox_InvalidText => k_is)
    (case rv_InvalidText => kernel_rfl)
    (case sa_InvalidText => k_is)
    (case sx_InvalidText => k_is)
    (case kc_InvalidText => k_is)
    (case ci_InvalidRows => k_is)
    (case cm_InvalidRows => rfl)
    (case tp_InvalidRows => k_is)
    (case ha_InvalidRows => k_is)
    (case xa_InvalidRows => k_is)
    (case xg_InvalidRows => k_is)
    (case xs_InvalidRows => k_is)
    (case xd_InvalidRows => k_is)
    (case mo_InvalidRows => k_is)
    (case nf_InvalidRows_deed => k_is)
    (case nf_InvalidRows_shown => k_is)
    (case nf_InvalidRows_given => k_is)
    (case nf_InvalidRows_many => k_is)
    (case nf_InvalidRows_limit => k_is)
    (case nf_InvalidRows_value => k_is)
    (case nf_InvalidRows_index => k_is)
    (case ox_InvalidRows => k_is)
    (case rv_InvalidRows => kernel_rfl)
    (case sa_InvalidRows => k_is)
    (case sx_InvalidRows => k_is)
    (case kc_InvalidRows => k_is)
    (case ci_InvalidSayings => k_is)
    (case cm_InvalidSayings => rfl)
    (case tp_InvalidSayings => k_is)
    (case ha_InvalidSayings => k_is)
    (case xa_InvalidSayings => k_is)
    (case xg_InvalidSayings => k_is)
    (case xs_InvalidSayings => k_is)
    (case xd_InvalidSayings => k_is)
    (case mo_InvalidSayings => k_is)
    (case nf_InvalidSayings_deed => k_is)
    (case nf_InvalidSayings_shown => k_is)
    (case nf_InvalidSayings_given => k_is)
    (case nf_InvalidSayings_many => k_is)
    (case nf_InvalidSayings_limit => k_is)
    (case nf_InvalidSayings_value => k_is)
    (case nf_InvalidSayings_index => k_is)
    (case ox_InvalidSayings => k_is)
    (case rv_InvalidSayings => kernel_rfl)
    (case sa_InvalidSayings => k_is)
    (case sx_InvalidSayings => k_is)
    (case kc_InvalidSayings => k_is)
    (case ci_InvalidGood => k_is)
    (case cm_InvalidGood => rfl)
    (case tp_InvalidGood => k_is)
    (case ha_InvalidGood => k_is)
    (case xa_InvalidGood => k_is)
    (case xg_InvalidGood => k_is)
    (case xs_InvalidGood => k_is)
    (case xd_InvalidGood => k_is)
    (case mo_InvalidGood => k_is)
    (case nf_InvalidGood_deed => k_is)
    (case nf_InvalidGood_shown => k_is)
    (case nf_InvalidGood_given => k_is)
    (case nf_InvalidGood_many => k_is)
    (case nf_InvalidGood_limit => k_is)
    (case nf_InvalidGood_value => k_is)
    (case nf_InvalidGood_index => k_is)
    (case ox_InvalidGood => k_is)
    (case rv_InvalidGood => kernel_rfl)
    (case sa_InvalidGood => k_is)
    (case sx_InvalidGood => k_is)
    (case kc_InvalidGood => k_is)
    (case ci_InvalidGuards => k_is)
    (case cm_InvalidGuards => rfl)
    (case tp_InvalidGuards => k_is)
    (case ha_InvalidGuards => k_is)
    (case xa_InvalidGuards => k_is)
    (case xg_InvalidGuards => k_is)
    (case xs_InvalidGuards => k_is)
    (case xd_InvalidGuards => k_is)
    (case mo_InvalidGuards => k_is)
    (case nf_InvalidGuards_deed => k_is)
    (case nf_InvalidGuards_shown => k_is)
    (case nf_InvalidGuards_given => k_is)
    (case nf_InvalidGuards_many => k_is)
    (case nf_InvalidGuards_limit => k_is)
    (case nf_InvalidGuards_value => k_is)
    (case nf_InvalidGuards_index => k_is)
    (case ox_InvalidGuards => k_is)
    (case rv_InvalidGuards => kernel_rfl)
    (case sa_InvalidGuards => k_is)
    (case sx_InvalidGuards => k_is)
    (case kc_InvalidGuards => k_is)
    (case ci_InvalidDeed => k_is)
    (case cm_InvalidDeed => rfl)
    (case tp_InvalidDeed => k_is)
    (case ha_InvalidDeed => k_is)
    (case xa_InvalidDeed => k_is)
    (case xg_InvalidDeed => k_is)
    (case xs_InvalidDeed => k_is)
    (case xd_InvalidDeed => k_is)
    (case mo_InvalidDeed => k_is)
    (case nf_InvalidDeed_deed => k_is)
    (case nf_InvalidDeed_shown => k_is)
    (case nf_InvalidDeed_given => k_is)
    (case nf_InvalidDeed_many => k_is)
    (case nf_InvalidDeed_limit => k_is)
    (case nf_InvalidDeed_value => k_is)
    (case nf_InvalidDeed_index => k_is)
    (case ox_InvalidDeed => k_is)
    (case rv_InvalidDeed => kernel_rfl)
    (case sa_InvalidDeed => k_is)
    (case sx_InvalidDeed => k_is)
    (case kc_InvalidDeed => k_is)
    (case ci_InvalidLine => k_is)
    (case cm_InvalidLine => rfl)
    (case tp_InvalidLine => k_is)
    (case ha_InvalidLine => k_is)
    (case xa_InvalidLine => k_is)
    (case xg_InvalidLine => k_is)
    (case xs_InvalidLine => k_is)
    (case xd_InvalidLine => k_is)
    (case mo_InvalidLine => k_is)
    (case nf_InvalidLine_deed => k_is)
    (case nf_InvalidLine_shown => k_is)
    (case nf_InvalidLine_given => k_is)
    (case nf_InvalidLine_many => k_is)
    (case nf_InvalidLine_limit => k_is)
    (case nf_InvalidLine_value => k_is)
    (case nf_InvalidLine_index => k_is)
    (case ox_InvalidLine => k_is)
    (case rv_InvalidLine => kernel_rfl)
    (case sa_InvalidLine => k_is)
    (case sx_InvalidLine => k_is)
    (case kc_InvalidLine => k_is)
    (case ci_NotASystem => k_is)
    (case cm_NotASystem => rfl)
    (case tp_NotASystem => k_is)
    (case ha_NotASystem => k_is)
    (case xa_NotASystem => k_is)
    (case xg_NotASystem => k_is)
    (case xs_NotASystem => k_is)
    (case xd_NotASystem => k_is)
    (case mo_NotASystem => k_is)
    (case nf_NotASystem_deed => k_is)
    (case nf_NotASystem_shown => k_is)
    (case nf_NotASystem_given => k_is)
    (case nf_NotASystem_many => k_is)
    (case nf_NotASystem_limit => k_is)
    (case nf_NotASystem_value => k_is)
    (case nf_NotASystem_index => k_is)
    (case ox_NotASystem => k_is)
    (case rv_NotASystem => kernel_rfl)
    (case sa_NotASystem => k_is)
    (case sx_NotASystem => k_is)
    (case kc_NotASystem => k_is)
    (case ci_NotARow => k_is)
    (case cm_NotARow => rfl)
    (case tp_NotARow => k_is)
    (case ha_NotARow => k_is)
    (case xa_NotARow => k_is)
    (case xg_NotARow => k_is)
    (case xs_NotARow => k_is)
    (case xd_NotARow => k_is)
    (case mo_NotARow => k_is)
    (case nf_NotARow_deed => k_is)
    (case nf_NotARow_shown => k_is)
    (case nf_NotARow_given => k_is)
    (case nf_NotARow_many => k_is)
    (case nf_NotARow_limit => k_is)
    (case nf_NotARow_value => k_is)
    (case nf_NotARow_index => k_is)
    (case ox_NotARow => k_is)
    (case rv_NotARow => kernel_rfl)
    (case sa_NotARow => k_is)
    (case sx_NotARow => k_is)
    (case kc_NotARow => k_is)
    (case ci_NotAWish => k_is)
    (case cm_NotAWish => rfl)
    (case tp_NotAWish => k_is)
    (case ha_NotAWish => k_is)
    (case xa_NotAWish => k_is)
    (case xg_NotAWish => k_is)
    (case xs_NotAWish => k_is)
    (case xd_NotAWish => k_is)
    (case mo_NotAWish => k_is)
    (case nf_NotAWish_deed => k_is)
    (case nf_NotAWish_shown => k_is)
    (case nf_NotAWish_given => k_is)
    (case nf_NotAWish_many => k_is)
    (case nf_NotAWish_limit => k_is)
    (case nf_NotAWish_value => k_is)
    (case nf_NotAWish_index => k_is)
    (case ox_NotAWish => k_is)
    (case rv_NotAWish => kernel_rfl)
    (case sa_NotAWish => k_is)
    (case sx_NotAWish => k_is)
    (case kc_NotAWish => k_is)
    (case ci_NotABook => k_is)
    (case cm_NotABook => rfl)
    (case tp_NotABook => k_is)
    (case ha_NotABook => k_is)
    (case xa_NotABook => k_is)
    (case xg_NotABook => k_is)
    (case xs_NotABook => k_is)
    (case xd_NotABook => k_is)
    (case mo_NotABook => k_is)
    (case nf_NotABook_deed => k_is)
    (case nf_NotABook_shown => k_is)
    (case nf_NotABook_given => k_is)
    (case nf_NotABook_many => k_is)
    (case nf_NotABook_limit => k_is)
    (case nf_NotABook_value => k_is)
    (case nf_NotABook_index => k_is)
    (case ox_NotABook => k_is)
    (case rv_NotABook => kernel_rfl)
    (case sa_NotABook => k_is)
    (case sx_NotABook => k_is)
    (case kc_NotABook => k_is)
    (case ci_NotAMachine => k_is)
    (case cm_NotAMachine => rfl)
    (case tp_NotAMachine => k_is)
    (case ha_NotAMachine => k_is)
    (case xa_NotAMachine => k_is)
    (case xg_NotAMachine => k_is)
    (case xs_NotAMachine => k_is)
    (case xd_NotAMachine => k_is)
    (case mo_NotAMachine => k_is)
    (case nf_NotAMachine_deed => k_is)
    (case nf_NotAMachine_shown => k_is)
    (case nf_NotAMachine_given => k_is)
    (case nf_NotAMachine_many => k_is)
    (case nf_NotAMachine_limit => k_is)
    (case nf_NotAMachine_value => k_is)
    (case nf_NotAMachine_index => k_is)
    (case ox_NotAMachine => k_is)
    (case rv_NotAMachine => kernel_rfl)
    (case sa_NotAMachine => k_is)
    (case sx_NotAMachine => k_is)
    (case kc_NotAMachine => k_is)
    (case ci_QuestionError => k_is)
    (case cm_QuestionError => rfl)
    (case tp_QuestionError => k_is)
    (case ha_QuestionError => k_is)
    (case xa_QuestionError => k_is)
    (case xg_QuestionError => k_is)
    (case xs_QuestionError => k_is)
    (case xd_QuestionError => k_is)
    (case mo_QuestionError => k_is)
    (case nf_QuestionError_deed => k_is)
    (case nf_QuestionError_shown => k_is)
    (case nf_QuestionError_given => k_is)
    (case nf_QuestionError_many => k_is)
    (case nf_QuestionError_limit => k_is)
    (case nf_QuestionError_value => k_is)
    (case nf_QuestionError_index => k_is)
    (case ci_OtherSystem => k_is)
    (case cm_OtherSystem => rfl)
    (case tp_OtherSystem => k_is)
    (case ha_OtherSystem => k_is)
    (case xa_OtherSystem => k_is)
    (case xg_OtherSystem => k_is)
    (case xs_OtherSystem => k_is)
    (case xd_OtherSystem => k_is)
    (case mo_OtherSystem => k_is)
    (case nf_OtherSystem_deed => k_is)
    (case nf_OtherSystem_shown => k_is)
    (case nf_OtherSystem_given => k_is)
    (case nf_OtherSystem_many => k_is)
    (case nf_OtherSystem_limit => k_is)
    (case nf_OtherSystem_value => k_is)
    (case nf_OtherSystem_index => k_is)
    (case ox_OtherSystem => k_is)
    (case rv_OtherSystem => kernel_rfl)
    (case sa_OtherSystem => k_is)
    (case sx_OtherSystem => k_is)
    (case kc_OtherSystem => k_is)
    (case ci_OtherNames => k_is)
    (case cm_OtherNames => rfl)
    (case tp_OtherNames => k_is)
    (case ha_OtherNames => k_is)
    (case xa_OtherNames => k_is)
    (case xg_OtherNames => k_is)
    (case xs_OtherNames => k_is)
    (case xd_OtherNames => k_is)
    (case mo_OtherNames => k_is)
    (case nf_OtherNames_deed => k_is)
    (case nf_OtherNames_shown => k_is)
    (case nf_OtherNames_given => k_is)
    (case nf_OtherNames_many => k_is)
    (case nf_OtherNames_limit => k_is)
    (case nf_OtherNames_value => k_is)
    (case nf_OtherNames_index => k_is)
    (case ox_OtherNames => k_is)
    (case rv_OtherNames => kernel_rfl)
    (case sa_OtherNames => k_is)
    (case sx_OtherNames => k_is)
    (case kc_OtherNames => k_is)
    (case ci_UnknownRow => k_is)
    (case cm_UnknownRow => rfl)
    (case tp_UnknownRow => k_is)
    (case ha_UnknownRow => k_is)
    (case xa_UnknownRow => k_is)
    (case xg_UnknownRow => k_is)
    (case xs_UnknownRow => k_is)
    (case xd_UnknownRow => k_is)
    (case mo_UnknownRow => k_is)
    (case nf_UnknownRow_deed => k_is)
    (case nf_UnknownRow_shown => k_is)
    (case nf_UnknownRow_given => k_is)
    (case nf_UnknownRow_many => k_is)
    (case nf_UnknownRow_limit => k_is)
    (case nf_UnknownRow_value => k_is)
    (case nf_UnknownRow_index => k_is)
    (case ox_UnknownRow => k_is)
    (case rv_UnknownRow => kernel_rfl)
    (case sa_UnknownRow => k_is)
    (case sx_UnknownRow => k_is)
    (case kc_UnknownRow => k_is)
    (case ci_UnknownSaying => k_is)
    (case cm_UnknownSaying => rfl)
    (case tp_UnknownSaying => k_is)
    (case ha_UnknownSaying => k_is)
    (case xa_UnknownSaying => k_is)
    (case xg_UnknownSaying => k_is)
    (case xs_UnknownSaying => k_is)
    (case xd_UnknownSaying => k_is)
    (case mo_UnknownSaying => k_is)
    (case nf_UnknownSaying_deed => k_is)
    (case nf_UnknownSaying_shown => k_is)
    (case nf_UnknownSaying_given => k_is)
    (case nf_UnknownSaying_many => k_is)
    (case nf_UnknownSaying_limit => k_is)
    (case nf_UnknownSaying_value => k_is)
    (case nf_UnknownSaying_index => k_is)
    (case ox_UnknownSaying => k_is)
    (case rv_UnknownSaying => kernel_rfl)
    (case sa_UnknownSaying => k_is)
    (case sx_UnknownSaying => k_is)
    (case kc_UnknownSaying => k_is)
    (case ci_Never => k_is)
    (case cm_Never => rfl)
    (case tp_Never => k_is)
    (case ha_Never => k_is)
    (case xa_Never => k_is)
    (case xg_Never => k_is)
    (case xs_Never => k_is)
    (case xd_Never => k_is)
    (case mo_Never => k_is)
    (case nf_Never_deed => k_is)
    (case nf_Never_shown => k_is)
    (case nf_Never_given => k_is)
    (case nf_Never_many => k_is)
    (case nf_Never_limit => k_is)
    (case nf_Never_value => k_is)
    (case nf_Never_index => k_is)
    (case ci_Endless => k_is)
    (case cm_Endless => rfl)
    (case tp_Endless => k_is)
    (case ha_Endless => k_is)
    (case xa_Endless => k_is)
    (case xg_Endless => k_is)
    (case xs_Endless => k_is)
    (case xd_Endless => k_is)
    (case mo_Endless => k_is)
    (case nf_Endless_deed => k_is)
    (case nf_Endless_shown => k_is)
    (case nf_Endless_given => k_is)
    (case nf_Endless_many => k_is)
    (case nf_Endless_limit => k_is)
    (case nf_Endless_value => k_is)
    (case nf_Endless_index => k_is)
    (case ci_TooFew => k_is)
    (case cm_TooFew => rfl)
    (case tp_TooFew => k_is)
    (case ha_TooFew => k_is)
    (case xa_TooFew => k_is)
    (case xg_TooFew => k_is)
    (case xs_TooFew => k_is)
    (case xd_TooFew => k_is)
    (case mo_TooFew => k_is)
    (case nf_TooFew_deed => k_is)
    (case nf_TooFew_shown => k_is)
    (case nf_TooFew_given => k_is)
    (case nf_TooFew_many => k_is)
    (case nf_TooFew_limit => k_is)
    (case nf_TooFew_value => k_is)
    (case nf_TooFew_index => k_is)
    (case ox_TooFew => k_is)
    (case rv_TooFew => kernel_rfl)
    (case sa_TooFew => k_is)
    (case sx_TooFew => k_is)
    (case kc_TooFew => k_is)
    (case ci_Busy => k_is)
    (case cm_Busy => rfl)
    (case tp_Busy => k_is)
    (case ha_Busy => k_is)
    (case xa_Busy => k_is)
    (case xg_Busy => k_is)
    (case xs_Busy => k_is)
    (case xd_Busy => k_is)
    (case mo_Busy => k_is)
    (case nf_Busy_deed => k_is)
    (case nf_Busy_shown => k_is)
    (case nf_Busy_given => k_is)
    (case nf_Busy_many => k_is)
    (case nf_Busy_limit => k_is)
    (case nf_Busy_value => k_is)
    (case nf_Busy_index => k_is)
    (case ci_NothingToUndo => k_is)
    (case cm_NothingToUndo => rfl)
    (case tp_NothingToUndo => k_is)
    (case ha_NothingToUndo => k_is)
    (case xa_NothingToUndo => k_is)
    (case xg_NothingToUndo => k_is)
    (case xs_NothingToUndo => k_is)
    (case xd_NothingToUndo => k_is)
    (case mo_NothingToUndo => k_is)
    (case nf_NothingToUndo_deed => k_is)
    (case nf_NothingToUndo_shown => k_is)
    (case nf_NothingToUndo_given => k_is)
    (case nf_NothingToUndo_many => k_is)
    (case nf_NothingToUndo_limit => k_is)
    (case nf_NothingToUndo_value => k_is)
    (case nf_NothingToUndo_index => k_is)
    (case ci_Refused => k_is)
    (case cm_Refused => rfl)
    (case tp_Refused => k_is)
    (case ha_Refused => k_is)
    (case xa_Refused => k_is)
    (case xg_Refused => k_is)
    (case xs_Refused => k_is)
    (case xd_Refused => k_is)
    (case mo_Refused => k_is)
    (case nf_Refused_deed => k_is)
    (case nf_Refused_shown => k_is)
    (case nf_Refused_given => k_is)
    (case nf_Refused_many => k_is)
    (case nf_Refused_limit => k_is)
    (case nf_Refused_value => k_is)
    (case nf_Refused_index => k_is)
    (case ox_Refused => k_is)
    (case rv_Refused => kernel_rfl)
    (case sa_Refused => k_is)
    (case sx_Refused => k_is)
    (case kc_Refused => k_is)
    (case ci_SizeError => k_is)
    (case cm_SizeError => rfl)
    (case tp_SizeError => k_is)
    (case ha_SizeError => k_is)
    (case xa_SizeError => k_is)
    (case xg_SizeError => k_is)
    (case xs_SizeError => k_is)
    (case xd_SizeError => k_is)
    (case mo_SizeError => k_is)
    (case nf_SizeError_deed => k_is)
    (case nf_SizeError_shown => k_is)
    (case nf_SizeError_given => k_is)
    (case nf_SizeError_many => k_is)
    (case nf_SizeError_limit => k_is)
    (case nf_SizeError_value => k_is)
    (case nf_SizeError_index => k_is)
    (case ci_TooMany => k_is)
    (case cm_TooMany => rfl)
    (case tp_TooMany => k_is)
    (case ha_TooMany => k_is)
    (case xa_TooMany => k_is)
    (case xg_TooMany => k_is)
    (case xs_TooMany => k_is)
    (case xd_TooMany => k_is)
    (case mo_TooMany => k_is)
    (case nf_TooMany_deed => k_is)
    (case nf_TooMany_shown => k_is)
    (case nf_TooMany_given => k_is)
    (case nf_TooMany_many => k_is)
    (case nf_TooMany_limit => k_is)
    (case nf_TooMany_value => k_is)
    (case nf_TooMany_index => k_is)
    (case ox_TooMany => k_is)
    (case rv_TooMany => kernel_rfl)
    (case sa_TooMany => k_is)
    (case sx_TooMany => k_is)
    (case kc_TooMany => k_is)
    (case x0_Never => kernel_rfl)
    (case kx_Never => k_is)
    (case x0_Endless => kernel_rfl)
    (case kx_Endless => k_is)
    (case x0_Busy => kernel_rfl)
    (case kx_Busy => k_is)
    (case x0_NothingToUndo => kernel_rfl)
    (case kx_NothingToUndo => k_is)
    (case ndp => decide +kernel)
    (case oc_hn => k_is)
    (case oc_tk => k_is)
    (case z_ArithmeticError => k_is)
    (case z_LookupError => k_is)
    (case z_ValueError => k_is)
    (case z_abs => k_is)
    (case z_all => k_is)
    (case z_int => k_is)
    (case z_isinstance => k_is)
    (case z_len => k_is)
    (case z_max => k_is)
    (case z_min => k_is)
    (case z_range => k_is)
    (case z_repr => k_is)
    (case v_MOST_CONSTANT => k_is)
    (case v_MOST_DEEDS => k_is)
    (case v_MOST_DEPTH => k_is)
    (case v_MOST_LENGTH => k_is)
    (case v_MOST_MACHINE => k_is)
    (case v_MOST_NAMES => k_is)
    (case v_MOST_NUMBER => k_is)
    (case v_MOST_PARTS => k_is)
    (case v_MOST_ROWS => k_is)
    (case v_MOST_SAYINGS => k_is)
    (case v_MOST_STANDS => k_is)
    (case v_MOST_STEP => k_is)
    (case v_MOST_TERM => k_is)
    (case v_MOST_WISHES => k_is)