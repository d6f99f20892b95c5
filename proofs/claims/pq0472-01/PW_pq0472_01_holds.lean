import PyProof.Rows.All
import Wide.All
import OpenK.AllK
import Wide.FinOn
import PySem.Challenge.RW_pq0472_01
open PySem PySem.W PySem.Spec PySem.Calls PyProof.Rows
set_option Elab.async false
set_option maxRecDepth 100000
set_option maxHeartbeats 8000000
namespace Mine
abbrev Led := List (Addr × Obj)
abbrev tup (l : List Value) : Obj := { cls := .type "tuple", data := .seq l.toArray }
def Both (_ : PySem.W.OpenLaw) (_ : Params → Frag) : Prop := True

/-- a halt of the walk -/
def Halt (P : Prop) : Prop := P
theorem Halt.at {P : Prop} (h : Halt P) : P := h
theorem Halt.on {P : Prop} (h : P) : Halt P := h
/-- the defs that have a contract: the walk halts at their calls -/
def isCut (n : Nat) : Bool := [61, 83, 125, 132, 461, 468, 550, 564, 669, 726, 733, 740, 747, 754].contains n
theorem Halt.cut {M : Model} {A : Around} {n : Nat} {v : Value} {vs : List Value} {Q E : Value → Shared → Prop} {s : Shared} (_ : isCut n = true) (h : Halt (wpAny M A (call (.ref n) (v :: vs)) Q E s)) : wpAny M A (call (.ref n) (v :: vs)) Q E s := h
def lhsOf {x y : Int} (_ : x < y) : Int := x
structure Hid (P : Prop) : Prop where
  out : P
theorem drop1 {h₀ h : Heap} {L : Addr} {p : Addr × Obj} {l : Led} (N : News h₀ L h (p :: l)) : News h₀ L h l := fun q hq => N q (.tail _ hq)
theorem dropTo {h₀ h : Heap} {L : Addr} {l l' : Led} (N : News h₀ L h l) (hs : ∀ p ∈ l', p ∈ l) : News h₀ L h l' := fun q hq => N q (hs q hq)

/-- the ledger that holds c, c ahead -/
theorem updF_cons {c : Addr} {o : Obj} {news : Led} {g : Obj → Led} (U : UpdF c o news g) : ∃ rest : Led, (∀ p ∈ rest, p.1 ≠ c) ∧ (∀ o' p, p ∈ g o' ↔ p ∈ (c, o') :: rest) ∧ news = g o := by
  obtain ⟨pre, post, rfl, hg, a, b⟩ := U.split
  refine ⟨pre ++ post, fun p hp => (List.mem_append.mp hp).elim (a p) (b p), fun o' p => ?_, (hg o).symm⟩
  rw [hg, List.mem_append, List.mem_cons, List.mem_cons, List.mem_append]
  constructor
  · rintro (h | h | h)
    · exact .inr (.inl h)
    · exact .inl h
    · exact .inr (.inr h)
  · rintro (h | h | h)
    · exact .inr (.inl h)
    · exact .inl h
    · exact .inr (.inr h)

/-- a call that hands back one value and leaves the ledger as it is -/
def PureC (prog : Program) (w : World) (K : Frag) (p : Program) (loose : List Str) (mean : ExcName → Option Value) (mg mb : Str → Option Value) (f : Addr) (deep : Nat) (vs : List Value) (pre : Led → Prop) (R : Value → Prop) : Prop :=
  ∀ (dp un : Nat) (gd : Option (List Code)) (cn : Str) (cs : Scope) (a : Addr) (ccd : Value) (cl : List (Str × Addr)) (outer : List Env) (A₀ : Around) (base h₀ : Heap) (L : Addr) (m : Str → Option Value) (s : Shared) (Q E : Value → Shared → Prop)
    (news : Led),
    Below A₀ base outer h₀ → Fr h₀ L s.heap m → K.In h₀ → News h₀ L s.heap news → Top p loose mean mg mb h₀ → cs.kind = .function →
    pre news → dp + deep < recursionLimit → un + 100 + 8 * deep < cLine →
    (∀ (v : Value) (h' : Heap) (tk' : Nat), R v → Fr h₀ L h' m → News h₀ L h' news → Q v { s with heap := h', toks := tk' }) →
    wpAny (model prog w) (ktrTop dp un gd cn cs L a ccd cl outer) (call (.ref f) vs) Q E s
/-- a call that hands back one new tuple -/
def TupC (prog : Program) (w : World) (K : Frag) (p : Program) (loose : List Str) (mean : ExcName → Option Value) (mg mb : Str → Option Value) (f : Addr) (deep : Nat) (vs : List Value) (pre : Led → Prop) (R : List Value → Prop) : Prop :=
  ∀ (dp un : Nat) (gd : Option (List Code)) (cn : Str) (cs : Scope) (a : Addr) (ccd : Value) (cl : List (Str × Addr)) (outer : List Env) (A₀ : Around) (base h₀ : Heap) (L : Addr) (m : Str → Option Value) (s : Shared) (Q E : Value → Shared → Prop)
    (news : Led),
    Below A₀ base outer h₀ → Fr h₀ L s.heap m → K.In h₀ → News h₀ L s.heap news → Top p loose mean mg mb h₀ → cs.kind = .function →
    pre news → dp + deep < recursionLimit → un + 100 + 8 * deep < cLine →
    (∀ (x : Addr) (its : List Value) (h' : Heap) (tk' : Nat), R its → Fr h₀ L h' m → News h₀ L h' ((x, tup its) :: news) → (∀ q ∈ news, q.1 < x) → Q (.ref x) { s with heap := h', toks := tk' }) →
    wpAny (model prog w) (ktrTop dp un gd cn cs L a ccd cl outer) (call (.ref f) vs) Q E s
/-- a call that pops off the int list c, which stands ahead of the ledger, and hands back one value -/
def ClayC (prog : Program) (w : World) (K : Frag) (p : Program) (loose : List Str) (mean : ExcName → Option Value) (mg mb : Str → Option Value) (f : Addr) (deep : Nat) (more : List Value) (pre : Prop) (R : Value → Prop) : Prop :=
  ∀ (dp un : Nat) (gd : Option (List Code)) (cn : Str) (cs : Scope) (a : Addr) (ccd : Value) (cl : List (Str × Addr)) (outer : List Env) (A₀ : Around) (base h₀ : Heap) (L : Addr) (m : Str → Option Value) (s : Shared) (Q E : Value → Shared → Prop)
    (c : Addr) (vs : List Value) (ns : List Int) (n : Nat) (news : Led),
    Below A₀ base outer h₀ → Fr h₀ L s.heap m → K.In h₀ → News h₀ L s.heap ((c, listOf vs.toArray n) :: news) → Top p loose mean mg mb h₀ → cs.kind = .function →
    (∀ p ∈ news, p.1 ≠ c) → IntsAre vs ns → vs.length ≤ 50 → pre → dp + deep < recursionLimit → un + 100 + 8 * deep < cLine →
    (∀ (v : Value) (h' : Heap) (tk' : Nat) (vs' : List Value) (ns' : List Int) (n' : Nat), R v → IntsAre vs' ns' → vs'.length ≤ 50 → Fr h₀ L h' m → News h₀ L h' ((c, listOf vs'.toArray n') :: news) → Q v { s with heap := h', toks := tk' }) →
    wpAny (model prog w) (ktrTop dp un gd cn cs L a ccd cl outer) (call (.ref f) (.ref c :: more)) Q E s
section
variable {prog : Program} {w : World} {K : Frag} {p : Program} {loose : List Str} {mean : ExcName → Option Value} {mg mb : Str → Option Value} {f : Addr} {deep : Nat} {vs more : List Value} {pre : Led → Prop}
  {dp un : Nat} {gd : Option (List Code)} {cn : Str} {cs : Scope} {a : Addr} {ccd : Value} {cl : List (Str × Addr)} {outer : List Env} {A₀ : Around} {base h₀ : Heap} {L : Addr} {m : Str → Option Value} {s : Shared} {Q E : Value → Shared → Prop} {news : Led}
theorem PureC.use {R : Value → Prop} (C : PureC prog w K p loose mean mg mb f deep vs pre R) (B : Below A₀ base outer h₀) (F : Fr h₀ L s.heap m) (X : K.In h₀) (N : News h₀ L s.heap news) (T : Top p loose mean mg mb h₀) (hk : cs.kind = .function)
    (hp : pre news) (hd : dp + deep < recursionLimit) (hu : un + 100 + 8 * deep < cLine) (h : ∀ (v : Value) (h' : Heap) (tk' : Nat), R v → Fr h₀ L h' m → News h₀ L h' news → Q v { s with heap := h', toks := tk' }) :
    wpAny (model prog w) (ktrTop dp un gd cn cs L a ccd cl outer) (call (.ref f) vs) Q E s := C _ _ _ _ _ _ _ _ _ _ _ _ _ _ _ _ _ _ B F X N T hk hp hd hu h
theorem TupC.use {R : List Value → Prop} (C : TupC prog w K p loose mean mg mb f deep vs pre R) (B : Below A₀ base outer h₀) (F : Fr h₀ L s.heap m) (X : K.In h₀) (N : News h₀ L s.heap news) (T : Top p loose mean mg mb h₀) (hk : cs.kind = .function)
    (hp : pre news) (hd : dp + deep < recursionLimit) (hu : un + 100 + 8 * deep < cLine) (h : ∀ (x : Addr) (its : List Value) (h' : Heap) (tk' : Nat), R its → Fr h₀ L h' m → News h₀ L h' ((x, tup its) :: news) → (∀ q ∈ news, q.1 < x) → Q (.ref x) { s with heap := h', toks := tk' }) :
    wpAny (model prog w) (ktrTop dp un gd cn cs L a ccd cl outer) (call (.ref f) vs) Q E s := C _ _ _ _ _ _ _ _ _ _ _ _ _ _ _ _ _ _ B F X N T hk hp hd hu h
theorem ClayC.use {pre : Prop} {R : Value → Prop} {c : Addr} {vs : List Value} {ns : List Int} {n : Nat} {g : Obj → Led} (C : ClayC prog w K p loose mean mg mb f deep more pre R) (B : Below A₀ base outer h₀) (F : Fr h₀ L s.heap m) (X : K.In h₀) (N : News h₀ L s.heap news) (T : Top p loose mean mg mb h₀) (hk : cs.kind = .function)
    (U : UpdF c (listOf vs.toArray n) news g) (hI : IntsAre vs ns) (hl : vs.length ≤ 50)
    (hp : pre) (hd : dp + deep < recursionLimit) (hu : un + 100 + 8 * deep < cLine)
    (h : ∀ (v : Value) (h' : Heap) (tk' : Nat) (vs' : List Value) (ns' : List Int) (n' : Nat), R v → IntsAre vs' ns' → vs'.length ≤ 50 → Fr h₀ L h' m → News h₀ L h' (g (listOf vs'.toArray n')) → Q v { s with heap := h', toks := tk' }) :
    wpAny (model prog w) (ktrTop dp un gd cn cs L a ccd cl outer) (call (.ref f) (.ref c :: more)) Q E s := by
  obtain ⟨rest, hne, hg, rfl⟩ := updF_cons U
  exact C _ _ _ _ _ _ _ _ _ _ _ _ _ _ _ _ _ c vs ns n rest B F X (dropTo N fun q hq => (hg _ q).mpr hq) T hk hne hI hl hp hd hu fun v h' tk' vs' ns' n' hR hI' hl' F' N' => h v h' tk' vs' ns' n' hR hI' hl' F' (dropTo N' fun q hq => (hg _ q).mp hq)
end

/-- what _law_index hands back -/
def idxV (sg : Bool) (fig unk : Int) (v : Value) : Prop := (unk = 4 ∧ v = .none) ∨ (unk = 0 ∧ ∃ t, v = .int (if sg then fig else fig.fmod 256) t)
def sgOf {sg : Bool} {fig unk : Int} {v : Value} (_ : idxV sg fig unk v) : Bool := sg
abbrev idxE (fig unk : Int) (ta tb tc td : Tok) : Obj := tup [.str (Str.ofString "const") ta, .int 8 tb, .int (fig.fmod 256) tc, .int unk td]
def IdxC (prog : Program) (w : World) (K : Frag) (p : Program) (loose : List Str) (mean : ExcName → Option Value) (mg mb : Str → Option Value) (f : Addr) (deep : Nat) (low span : Int) (t1 t2 : Tok) (pre : Prop) : Prop :=
  ∀ (dp un : Nat) (gd : Option (List Code)) (cn : Str) (cs : Scope) (a : Addr) (ccd : Value) (cl : List (Str × Addr)) (outer : List Env) (A₀ : Around) (base h₀ : Heap) (L : Addr) (m : Str → Option Value) (s : Shared) (Q E : Value → Shared → Prop)
    (c : Addr) (vs : List Value) (ns : List Int) (n : Nat) (news : Led),
    Below A₀ base outer h₀ → Fr h₀ L s.heap m → K.In h₀ → News h₀ L s.heap ((c, listOf vs.toArray n) :: news) → Top p loose mean mg mb h₀ → cs.kind = .function →
    (∀ p ∈ news, p.1 ≠ c) → IntsAre vs ns → vs.length ≤ 50 → pre → dp + deep < recursionLimit → un + 100 + 8 * deep < cLine →
    (∀ (T e : Addr) (fig unk : Int) (sg : Bool) (v : Value) (ta tb tc td : Tok) (h' : Heap) (tk' : Nat) (vs' : List Value) (ns' : List Int) (n' : Nat), low ≤ fig → fig < low + span + 2 → idxV sg fig unk v → IntsAre vs' ns' → vs'.length ≤ 50 → Fr h₀ L h' m →
      News h₀ L h' ((T, tup [.ref e, .bool sg, v]) :: (e, idxE fig unk ta tb tc td) :: (c, listOf vs'.toArray n') :: news) → (c < e ∧ ∀ q ∈ news, q.1 < e) → e < T → Q (.ref T) { s with heap := h', toks := tk' }) →
    wpAny (model prog w) (ktrTop dp un gd cn cs L a ccd cl outer) (call (.ref f) [.ref c, .int low t1, .int span t2]) Q E s
theorem IdxC.use {prog : Program} {w : World} {K : Frag} {p : Program} {loose : List Str} {mean : ExcName → Option Value} {mg mb : Str → Option Value} {f : Addr} {deep : Nat} {low span : Int} {t1 t2 : Tok}
  {dp un : Nat} {gd : Option (List Code)} {cn : Str} {cs : Scope} {a : Addr} {ccd : Value} {cl : List (Str × Addr)} {outer : List Env} {A₀ : Around} {base h₀ : Heap} {L : Addr} {m : Str → Option Value} {s : Shared} {Q E : Value → Shared → Prop} {news : Led}
    {pre : Prop} {c : Addr} {vs : List Value} {ns : List Int} {n : Nat} {g : Obj → Led} (C : IdxC prog w K p loose mean mg mb f deep low span t1 t2 pre) (B : Below A₀ base outer h₀) (F : Fr h₀ L s.heap m) (X : K.In h₀) (N : News h₀ L s.heap news) (T : Top p loose mean mg mb h₀) (hk : cs.kind = .function)
    (U : UpdF c (listOf vs.toArray n) news g) (hI : IntsAre vs ns) (hl : vs.length ≤ 50)
    (hp : pre) (hd : dp + deep < recursionLimit) (hu : un + 100 + 8 * deep < cLine)
    (h : ∀ (T e : Addr) (fig unk : Int) (sg : Bool) (v : Value) (ta tb tc td : Tok) (h' : Heap) (tk' : Nat) (vs' : List Value) (ns' : List Int) (n' : Nat), low ≤ fig → fig < low + span + 2 → idxV sg fig unk v → IntsAre vs' ns' → vs'.length ≤ 50 → Fr h₀ L h' m →
      News h₀ L h' ((T, tup [.ref e, .bool sg, v]) :: (e, idxE fig unk ta tb tc td) :: g (listOf vs'.toArray n')) → (∀ q ∈ g (listOf vs'.toArray n'), q.1 < e) → e < T → Q (.ref T) { s with heap := h', toks := tk' }) :
    wpAny (model prog w) (ktrTop dp un gd cn cs L a ccd cl outer) (call (.ref f) [.ref c, .int low t1, .int span t2]) Q E s := by
  obtain ⟨rest, hne, hg, rfl⟩ := updF_cons U
  refine C _ _ _ _ _ _ _ _ _ _ _ _ _ _ _ _ _ c vs ns n rest B F X (dropTo N fun q hq => (hg _ q).mpr hq) T hk hne hI hl hp hd hu fun T e fig unk sg v ta tb tc td h' tk' vs' ns' n' h1 h2 hV hI' hl' F' N' hlt hT => h T e fig unk sg v ta tb tc td h' tk' vs' ns' n' h1 h2 hV hI' hl' F' (dropTo N' fun q hq => ?_) (fun q hq => ?_) hT
  · rcases List.mem_cons.mp hq with rfl | hq
    · exact .head _
    · rcases List.mem_cons.mp hq with rfl | hq
      · exact .tail _ (.head _)
      · exact .tail _ (.tail _ ((hg _ q).mp hq))
  · rcases List.mem_cons.mp ((hg _ q).mp hq) with rfl | hq
    · exact hlt.1
    · exact hlt.2 q hq

/-- what slice_vec makes of one of the two ints of a vector -/
def sliceF (wide lo take A : Int) : Int :=
  if (if wide < lo + take then wide else lo + take) ≤ (if 0 > lo then 0 else lo) then 2 ^ take.toNat - 1
  else Builtin.bitOr
    (Builtin.bitAnd (A.fdiv (2 ^ (if 0 > lo then 0 else lo).toNat)) (2 ^ ((if wide < lo + take then wide else lo + take) - if 0 > lo then 0 else lo).toNat - 1) * 2 ^ ((if 0 > lo then 0 else lo) - lo).toNat)
    (Builtin.bitXor (2 ^ take.toNat - 1) ((2 ^ ((if wide < lo + take then wide else lo + take) - if 0 > lo then 0 else lo).toNat - 1) * 2 ^ ((if 0 > lo then 0 else lo) - lo).toNat))
theorem sliceF_pos (wide lo take : Int) (h : (if wide < lo + take then wide else lo + take) ≤ (if 0 > lo then 0 else lo)) (A : Int) : sliceF wide lo take A = 2 ^ take.toNat - 1 := by
  unfold sliceF
  exact if_pos h
theorem sliceF_neg (wide lo take : Int) (h : ¬ (if wide < lo + take then wide else lo + take) ≤ (if 0 > lo then 0 else lo)) (A : Int) : sliceF wide lo take A = Builtin.bitOr
    (Builtin.bitAnd (A.fdiv (2 ^ (if 0 > lo then 0 else lo).toNat)) (2 ^ ((if wide < lo + take then wide else lo + take) - if 0 > lo then 0 else lo).toNat - 1) * 2 ^ ((if 0 > lo then 0 else lo) - lo).toNat)
    (Builtin.bitXor (2 ^ take.toNat - 1) ((2 ^ ((if wide < lo + take then wide else lo + take) - if 0 > lo then 0 else lo).toNat - 1) * 2 ^ ((if 0 > lo then 0 else lo) - lo).toNat)) := by
  unfold sliceF
  exact if_neg h

section
variable (K : Params → Frag) (q : Program) (lo : List Str)
def MoldOk : Prop := ∀ (w : World) (mean : ExcName → Option Value) (mg mb : Str → Option Value) (many : Int) (t : Tok),
  ClayC PySem.Challenge.pw_pq0472_01 w (K w.params) q lo mean mg mb 733 1 [.int many t] (0 < many) (fun v => ∃ r t', v = .int r t' ∧ 0 ≤ r ∧ r < many)
def MaskOk : Prop := ∀ (w : World) (mean : ExcName → Option Value) (mg mb : Str → Option Value) (x : Int) (t : Tok),
  PureC PySem.Challenge.pw_pq0472_01 w (K w.params) q lo mean mg mb 61 1 [.int x t] (fun _ => 0 ≤ x ∧ x ≤ 8) (fun v => ∃ t, v = .int (2 ^ x.toNat - 1) t)
def AllxOk : Prop := ∀ (w : World) (mean : ExcName → Option Value) (mg mb : Str → Option Value) (x : Int) (t : Tok),
  TupC PySem.Challenge.pw_pq0472_01 w (K w.params) q lo mean mg mb 83 2 [.int x t] (fun _ => 0 ≤ x ∧ x ≤ 8) (fun l => ∃ t1 t2 t3, l = [.int x t1, .int (2 ^ x.toNat - 1) t2, .int (2 ^ x.toNat - 1) t3])
def SliceOk : Prop := ∀ (w : World) (mean : ExcName → Option Value) (mg mb : Str → Option Value) (v : Addr) (wide A B lo' take : Int) (ta tb tc td te : Tok),
  TupC PySem.Challenge.pw_pq0472_01 w (K w.params) q lo mean mg mb 125 3 [.ref v, .int lo' td, .int take te]
    (fun news => (v, tup [.int wide ta, .int A tb, .int B tc]) ∈ news ∧ 1 ≤ wide ∧ wide ≤ 6 ∧ 1 ≤ take ∧ take ≤ 4 ∧ -1000 ≤ lo' ∧ lo' ≤ 1000)
    (fun l => ∃ t1 t2 t3, l = [.int take t1, .int (sliceF wide lo' take A) t2, .int (sliceF wide lo' take B) t3])
def WholeOk : Prop := ∀ (w : World) (mean : ExcName → Option Value) (mg mb : Str → Option Value) (e ctx : Addr) (fig unk : Int) (sg : Bool) (ta tb tc td : Tok),
  PureC PySem.Challenge.pw_pq0472_01 w (K w.params) q lo mean mg mb 461 3 [.ref e, .bool sg, .ref ctx] (fun news => (e, idxE fig unk ta tb tc td) ∈ news ∧ -100 ≤ fig ∧ fig ≤ 100 ∧ (unk = 0 ∨ unk = 4)) (idxV sg fig unk)
def PartOk : Prop := ∀ (w : World) (mean : ExcName → Option Value) (mg mb : Str → Option Value),
  ClayC PySem.Challenge.pw_pq0472_01 w (K w.params) q lo mean mg mb 754 7 [] True (fun v => v = .bool true)
def MemoryOk : Prop := ∀ (w : World) (mean : ExcName → Option Value) (mg mb : Str → Option Value),
  ClayC PySem.Challenge.pw_pq0472_01 w (K w.params) q lo mean mg mb 747 7 [] True (fun v => v = .bool true)
def IndexOk : Prop := ∀ (w : World) (mean : ExcName → Option Value) (mg mb : Str → Option Value) (low span : Int) (t1 t2 : Tok),
  IdxC PySem.Challenge.pw_pq0472_01 w (K w.params) q lo mean mg mb 740 2 low span t1 t2 (-10 ≤ low ∧ low ≤ 10 ∧ 0 ≤ span ∧ span ≤ 10)
end

/-- what is asked of the dict of the memory's signal, and of the store's -/
structure SigE (es : List DictEntry) (W F Lt : Int) : Prop where
  width : ∃ t, getL (Str.ofString "width") es = some (some (.int W t))
  kind : ∃ t, getL (Str.ofString "kind") es = some (some (.str (Str.ofString "reg") t))
  first : ∃ t, getL (Str.ofString "first") es = some (some (.int F t))
  last : ∃ t, getL (Str.ofString "last") es = some (some (.int Lt t))
  words : getL (Str.ofString "words") es = some none
  place : getL (Str.ofString "place") es = some none
  isnet : getL (Str.ofString "is_net") es = some none
structure StoE (es : List DictEntry) (S M : Addr) : Prop where
  signals : getL (Str.ofString "signals") es = some (some (.ref S))
  memories : getL (Str.ofString "memories") es = some (some (.ref M))
  word : getL (Str.ofString "word") es = some none
  setbits : getL (Str.ofString "set_bits") es = some none
def PlaceR (F Lt idx p : Int) : Prop := (F ≤ Lt ∧ F ≤ idx ∧ idx ≤ Lt ∧ p = idx - F) ∨ (Lt < F ∧ Lt ≤ idx ∧ idx ≤ F ∧ p = F - idx) ∨ (p = -1 ∧ (F ≤ Lt → idx < F ∨ Lt < idx) ∧ (Lt < F → idx < Lt ∨ F < idx))
abbrev sigOf (news : Led) (sig dsig : Addr) (es : List DictEntry) (n : Nat) (W F Lt : Int) : Prop := (sig, instObj 567 dsig) ∈ news ∧ (dsig, dictOf es n) ∈ news ∧ SigE es W F Lt ∧ -20 ≤ F ∧ F ≤ 20 ∧ -20 ≤ Lt ∧ Lt ≤ 20

section
variable (K : Params → Frag) (q : Program) (lo : List Str)
def WordsOk : Prop := ∀ (w : World) (mean : ExcName → Option Value) (mg mb : Str → Option Value) (sig dsig : Addr) (es : List DictEntry) (n : Nat) (W F Lt : Int),
  PureC PySem.Challenge.pw_pq0472_01 w (K w.params) q lo mean mg mb 550 1 [.ref sig] (fun news => sigOf news sig dsig es n W F Lt) (fun v => ∃ k t, v = .int k t ∧ (F ≤ Lt → k = Lt - F + 1) ∧ (Lt < F → k = F - Lt + 1))
def PlaceOk : Prop := ∀ (w : World) (mean : ExcName → Option Value) (mg mb : Str → Option Value) (sig dsig : Addr) (es : List DictEntry) (n : Nat) (W F Lt idx : Int) (t : Tok),
  PureC PySem.Challenge.pw_pq0472_01 w (K w.params) q lo mean mg mb 564 2 [.ref sig, .int idx t] (fun news => sigOf news sig dsig es n W F Lt ∧ -1000 ≤ idx ∧ idx ≤ 1000) (fun v => ∃ p t, v = .int p t ∧ PlaceR F Lt idx p)
def PutOk : Prop := ∀ (w : World) (mean : ExcName → Option Value) (mg mb : Str → Option Value) (o v : Addr) (W val : Int) (t0 t1 t2 t3 t4 t5 t6 : Tok),
  TupC PySem.Challenge.pw_pq0472_01 w (K w.params) q lo mean mg mb 132 2 [.ref o, .int 0 t0, .ref v]
    (fun news => (o, tup [.int W t1, .int (2 ^ W.toNat - 1) t2, .int (2 ^ W.toNat - 1) t3]) ∈ news ∧ (v, tup [.int W t4, .int val t5, .int 0 t6]) ∈ news ∧ 1 ≤ W ∧ W ≤ 4 ∧ 0 ≤ val ∧ val < 2 ^ W.toNat)
    (fun l => ∃ t1 t2 t3, l = [.int W t1, .int val t2, .int 0 t3])
end
theorem in_fr {K : Frag} {h₀ h : Heap} {L : Addr} {m : Str → Option Value} (F : Fr h₀ L h m) (X : K.In h₀) : K.In h := X.keeps F.keep
theorem ne_len {vs : List Value} {ns : List Int} (hI : IntsAre vs ns) (a : decide (ns = []) = false) : 0 < vs.length := by
  cases hI with
  | nil => simp at a
  | cons => simp
theorem two_le63 {k : Int} (h : k ≤ 63) : (2 : Int) ^ k.toNat ≤ 2 ^ 63 := by
  have h1 : k.toNat ≤ 63 := by omega
  have h2 : (2 : Nat) ^ k.toNat ≤ 2 ^ 63 := Nat.pow_le_pow_right (by decide) h1
  have h3 := kbt_cast k.toNat
  have h4 := kbt_cast 63
  omega
theorem abs_mask {k : Int} (h : k ≤ 63) : ((2 : Int) ^ k.toNat - 1).natAbs < 2 ^ 64 := by
  have h1 := two_le63 h
  have h2 := kbt_pos k.toNat
  omega
theorem abs_and {x k : Int} (h : k ≤ 63) : (Builtin.bitAnd x (2 ^ k.toNat - 1)).natAbs < 2 ^ 64 := by
  have h1 := two_le63 h
  have h2 := kbt_pos k.toNat
  have h3 := bitAnd_range x (show (0 : Int) ≤ 2 ^ k.toNat - 1 by omega)
  omega
theorem whole_v1 {fig : Int} {sg : Bool} {t : Tok} (h1 : -100 ≤ fig) (h2 : fig ≤ 100) (hs : sg = true) (h : (fig.fmod 256).fdiv (2 ^ (8 - 1 : Int).toNat) = 1) :
    Value.int (fig.fmod 256 - 1 * 2 ^ Int.toNat 8) t = Value.int (if sg = true then fig else fig.fmod 256) t := by
  have e1 : (2 : Int) ^ (8 - 1 : Int).toNat = 128 := by decide
  have e2 : (1 : Int) * 2 ^ Int.toNat 8 = 256 := by decide
  rw [e1, Int.fmod_eq_emod_of_nonneg _ (by decide), Int.fdiv_eq_ediv_of_nonneg _ (by decide)] at h
  rw [e2, if_pos hs, Int.fmod_eq_emod_of_nonneg _ (by decide)]
  congr 1
  omega
theorem whole_v2 {fig : Int} {sg : Bool} {t : Tok} (h1 : -100 ≤ fig) (h2 : fig ≤ 100) (hs : sg = true) (h : (fig.fmod 256).fdiv (2 ^ (8 - 1 : Int).toNat) ≠ 1) :
    Value.int (fig.fmod 256) t = Value.int (if sg = true then fig else fig.fmod 256) t := by
  have e1 : (2 : Int) ^ (8 - 1 : Int).toNat = 128 := by decide
  rw [e1, Int.fmod_eq_emod_of_nonneg _ (by decide), Int.fdiv_eq_ediv_of_nonneg _ (by decide)] at h
  rw [if_pos hs, Int.fmod_eq_emod_of_nonneg _ (by decide)]
  congr 1
  omega
theorem whole_v3 {fig : Int} {sg : Bool} {t : Tok} (hs : sg = false) : Value.int (fig.fmod 256) t = Value.int (if sg = true then fig else fig.fmod 256) t := by
  rw [if_neg (by rw [hs]; decide)]
theorem idx_lt {c e : Addr} {news : Led} (h : c < e ∧ AllLt e news) : c < e ∧ ∀ q ∈ news, q.1 < e := ⟨h.1, fun q hq => ktn_ltOf h.2 q hq⟩
theorem idx_v0 {sg : Bool} {fig : Int} : idxV sg fig 4 .none := .inl ⟨rfl, rfl⟩
theorem idx_v1 {r k fig : Int} {t : Tok} (h : r < k) : idxV (decide (r < k)) fig 0 (.int fig t) := .inr ⟨rfl, t, by rw [if_pos (decide_eq_true h)]⟩
theorem idx_v2 {r k fig : Int} {t : Tok} (h : ¬ r < k) : idxV (decide (r < k)) fig 0 (.int (fig.fmod 256) t) := .inr ⟨rfl, t, by rw [if_neg (by rw [decide_eq_false h]; decide)]⟩
theorem idx_none {sg : Bool} {fig unk : Int} {v : Value} (h : idxV sg fig unk v) (hu : unk = 4) : v = .none := by
  rcases h with h | h
  · exact h.2
  · omega
theorem idx_some {sg : Bool} {fig unk : Int} {v : Value} (h : idxV sg fig unk v) (hu : unk = 0) : ∃ t, v = .int (if sg then fig else fig.fmod 256) t := by
  rcases h with h | h
  · omega
  · exact h.2
/-- the bit of A that a place takes, 1 outside -/
def bitF (W LO A : Int) (j : Nat) : Int := if 0 ≤ LO + j ∧ LO + j < W then (A.fdiv (2 ^ (LO + j).toNat)).fmod 2 else 1
def sumF (W LO A : Int) : Nat → Int
  | 0 => 0
  | n + 1 => sumF W LO A n + bitF W LO A n * 2 ^ n
theorem p0_turn {pre : List Int} {k a b : Int} (hk : k = 0 + (pre.length : Int)) (ha : a = 2 ^ pre.length - 1) (hb : b = 2 ^ pre.length - 1) :
    a + 1 * 2 ^ k.toNat = 2 ^ (pre ++ [k]).length - 1 ∧ b + 1 * 2 ^ k.toNat = 2 ^ (pre ++ [k]).length - 1 := by
  have e : k.toNat = pre.length := by omega
  rw [List.length_append, List.length_singleton, Int.pow_succ, ha, hb, e]
  omega
theorem p1_step {pre : List Int} {k a b W LO A B x y : Int} (hk : k = 0 + (pre.length : Int)) (ha : a = sumF W LO A pre.length) (hb : b = sumF W LO B pre.length) (hx : x = bitF W LO A pre.length) (hy : y = bitF W LO B pre.length) :
    a + x * 2 ^ k.toNat = sumF W LO A (pre ++ [k]).length ∧ b + y * 2 ^ k.toNat = sumF W LO B (pre ++ [k]).length := by
  have e : k.toNat = pre.length := by omega
  rw [List.length_append, List.length_singleton, sumF, sumF, ha, hb, e, hx, hy]
  exact ⟨rfl, rfl⟩
theorem p1_in {pre : List Int} {k a b W LO A B : Int} (hk : k = 0 + (pre.length : Int)) (ha : a = sumF W LO A pre.length) (hb : b = sumF W LO B pre.length) (h0 : 0 ≤ LO + k) (h1 : LO + k < W) :
    a + (A.fdiv (2 ^ (LO + k).toNat)).fmod 2 * 2 ^ k.toNat = sumF W LO A (pre ++ [k]).length ∧ b + (B.fdiv (2 ^ (LO + k).toNat)).fmod 2 * 2 ^ k.toNat = sumF W LO B (pre ++ [k]).length := by
  have e : k = (pre.length : Int) := by omega
  refine p1_step hk ha hb ?_ ?_ <;> · unfold bitF; rw [← e, if_pos ⟨h0, h1⟩]
theorem p1_lo {pre : List Int} {k a b W LO A B : Int} (hk : k = 0 + (pre.length : Int)) (ha : a = sumF W LO A pre.length) (hb : b = sumF W LO B pre.length) (h0 : ¬ 0 ≤ LO + k) :
    a + 1 * 2 ^ k.toNat = sumF W LO A (pre ++ [k]).length ∧ b + 1 * 2 ^ k.toNat = sumF W LO B (pre ++ [k]).length := by
  have e : k = (pre.length : Int) := by omega
  refine p1_step hk ha hb ?_ ?_ <;> · unfold bitF; rw [← e, if_neg (fun h => h0 h.1)]
theorem p1_hi {pre : List Int} {k a b W LO A B : Int} (hk : k = 0 + (pre.length : Int)) (ha : a = sumF W LO A pre.length) (hb : b = sumF W LO B pre.length) (h1 : ¬ LO + k < W) :
    a + 1 * 2 ^ k.toNat = sumF W LO A (pre ++ [k]).length ∧ b + 1 * 2 ^ k.toNat = sumF W LO B (pre ++ [k]).length := by
  have e : k = (pre.length : Int) := by omega
  refine p1_step hk ha hb ?_ ?_ <;> · unfold bitF; rw [← e, if_neg (fun h => h1 h.2)]
theorem p0_end {r a b : Int} (h0 : 0 ≤ r) (ha : a = 2 ^ (rangeKs 0 (1 + r - 0).toNat).length - 1) (hb : b = 2 ^ (rangeKs 0 (1 + r - 0).toNat).length - 1)
    (h : ((2 : Int) ^ (1 + r).toNat - 1 == a && (2 : Int) ^ (1 + r).toNat - 1 == b) = false) : False := by
  rw [rangeKs_length] at ha hb
  have e : 1 + r - 0 = 1 + r := by omega
  rw [e] at ha hb
  rw [ha, hb, beq_self_eq_true] at h
  exact absurd h (by decide)
theorem lo_bounds {sg : Bool} {fig rb rs : Int} (h1 : 0 ≤ rb) (h2 : rb < 5) (h3 : 0 ≤ rs) (h4 : rs < 2) (h5 : rb - 1 - 3 ≤ fig) (h6 : fig < rb - 1 - 3 + 8 + 2) :
    -1000 ≤ ((if sg = true then fig else fig.fmod 256) - (rb - 1)) * (1 - 2 * rs) ∧ ((if sg = true then fig else fig.fmod 256) - (rb - 1)) * (1 - 2 * rs) ≤ 1000 := by
  have h7 := fmod_lo fig (n := 256) (by decide)
  have h8 := fmod_hi fig (n := 256) (by decide)
  have h9 : rs = 0 ∨ rs = 1 := by omega
  rcases h9 with e | e <;> subst e <;> split <;> omega
theorem sumF_ones {W LO A : Int} : ∀ n : Nat, (∀ j : Nat, j < n → ¬ (0 ≤ LO + j ∧ LO + j < W)) → sumF W LO A n = 2 ^ n - 1
  | 0, _ => by rw [sumF]; decide
  | n + 1, h => by
    rw [sumF, sumF_ones n (fun j hj => h j (by omega)), bitF, if_neg (h n (by omega)), Int.pow_succ]
    omega
theorem slice_fin : ∀ W : Fin 6, ∀ t : Fin 4, ∀ L : Fin 11, ∀ A : Fin (2 ^ (W.val + 1)), sliceF (1 + (W.val : Int)) ((L.val : Int) - 4) (1 + (t.val : Int)) (A.val : Int) = sumF (1 + (W.val : Int)) ((L.val : Int) - 4) (A.val : Int) (t.val + 1) := by
  decide +kernel
theorem slice_sum {r q LO A : Int} (h1 : 0 ≤ r) (h2 : r < 6) (h3 : 0 ≤ q) (h4 : q < 4) (h5 : 0 ≤ A) (h6 : A < 2 ^ (1 + r).toNat) :
    sliceF (1 + r) LO (1 + q) A = sumF (1 + r) LO A (rangeKs 0 (1 + q - 0).toNat).length := by
  rw [rangeKs_length]
  have e : (1 + q - 0).toNat = q.toNat + 1 := by omega
  rw [e]
  by_cases hb : -4 ≤ LO ∧ LO ≤ 6
  · obtain ⟨b1, b2⟩ := hb
    have hA : A.toNat < 2 ^ (r.toNat + 1) := by
      have e1 : (1 + r).toNat = r.toNat + 1 := by omega
      rw [e1, ← kbt_cast] at h6
      omega
    have z := slice_fin ⟨r.toNat, by omega⟩ ⟨q.toNat, by omega⟩ ⟨(LO + 4).toNat, by omega⟩ ⟨A.toNat, hA⟩
    simp only at z
    rw [Int.toNat_of_nonneg h1, Int.toNat_of_nonneg h3, Int.toNat_of_nonneg h5, Int.toNat_of_nonneg (by omega)] at z
    have e2 : LO + 4 - 4 = LO := by omega
    rw [e2] at z
    exact z
  · rw [sliceF_pos, sumF_ones]
    · have e1 : (1 + q).toNat = q.toNat + 1 := by omega
      rw [e1]
    · intro j hj
      omega
    · split <;> split <;> omega
theorem p1_end {r q LO A B a b : Int} (hz : (sliceF (1 + r) LO (1 + q) A == a && sliceF (1 + r) LO (1 + q) B == b) = false) (h1 : 0 ≤ r) (h2 : r < 6) (h3 : 0 ≤ q) (h4 : q < 4) (a1 : 0 ≤ A) (a2 : A < 2 ^ (1 + r).toNat) (b1 : 0 ≤ B) (b2 : Hid (B < 2 ^ (1 + r).toNat))
    (ha : a = sumF (1 + r) LO A (rangeKs 0 (1 + q - 0).toNat).length) (hb : b = sumF (1 + r) LO B (rangeKs 0 (1 + q - 0).toNat).length) : False := by
  rw [slice_sum h1 h2 h3 h4 a1 a2, slice_sum h1 h2 h3 h4 b1 b2.out, ha, hb, beq_self_eq_true, beq_self_eq_true] at hz
  exact absurd hz (by decide)
theorem words_abs {F Lt : Int} : (F ≤ Lt → ((Lt - F).natAbs : Int) + 1 = Lt - F + 1) ∧ (Lt < F → ((Lt - F).natAbs : Int) + 1 = F - Lt + 1) := by
  constructor <;> intro h <;> omega
def putF (W A : Int) : Int := Builtin.bitOr
                (Builtin.bitAnd (2 ^ W.toNat - 1)
                  (Builtin.bitXor (2 ^ W.toNat - 1)
                    ((2 ^ ((if W < 0 + W then W else 0 + W) - if (0 : Int) > 0 then 0 else 0).toNat - 1) *
                      2 ^ (if (0 : Int) > 0 then (0 : Int) else 0).toNat)))
                (Builtin.bitAnd (A.fdiv (2 ^ ((if (0 : Int) > 0 then (0 : Int) else 0) - 0).toNat))
                    (2 ^ ((if W < 0 + W then W else 0 + W) - if (0 : Int) > 0 then 0 else 0).toNat - 1) *
                  2 ^ (if (0 : Int) > 0 then (0 : Int) else 0).toNat)
theorem put_fin : ∀ W : Fin 4, ∀ A : Fin (2 ^ (W.val + 1)), putF (1 + (W.val : Int)) (A.val : Int) = (A.val : Int) := by
  decide +kernel
theorem put_val {W A : Int} (h1 : 1 ≤ W) (h2 : W ≤ 4) (h3 : 0 ≤ A) (h4 : A < 2 ^ W.toNat) : putF W A = A := by
  have hA : A.toNat < 2 ^ ((W - 1).toNat + 1) := by
    have e1 : W.toNat = (W - 1).toNat + 1 := by omega
    rw [e1, ← kbt_cast] at h4
    omega
  have z := put_fin ⟨(W - 1).toNat, by omega⟩ ⟨A.toNat, hA⟩
  simp only at z
  rw [Int.toNat_of_nonneg h3, Int.toNat_of_nonneg (by omega)] at z
  have e2 : 1 + (W - 1) = W := by omega
  rw [e2] at z
  exact z
theorem put_eq {W val : Int} {t u v : Tok} (h1 : 1 ≤ W) (h2 : W ≤ 4) (h3 : 0 ≤ val) (h4 : val < 2 ^ W.toNat) : [Value.int W t, .int (putF W val) u, .int (putF W 0) v] = [Value.int W t, .int val u, .int 0 v] := by
  rw [put_val h1 h2 h3 h4, put_val h1 h2 (Int.le_refl 0) (kbt_pos _)]
theorem place_up {F Lt idx : Int} (h : F ≤ Lt) (h1 : ¬ idx - F < 0) (h2 : idx - F < Lt - F + 1) : PlaceR F Lt idx (idx - F) := .inl ⟨h, by omega, by omega, rfl⟩
section
variable {prog : Program} {w : World} {A : Around} {E : Value → Shared → Prop} {s : Shared} {h₀ : Heap} {L d : Addr} {news : Led} {o : Obj} {kvs : List (Int × Value)} {k : Int} {key v : Value}
theorem di_get {Q : Value → Shared → Prop} (N : News h₀ L s.heap news) (hp : (d, o) ∈ news) (hd : o.IsDictOf (PySem.intKind prog w) kvs) (hkey : (PySem.intKind prog w).is k key = true) (hl : valueAt kvs k = some v) (h : Q v { s with toks := s.toks + 1 }) :
    wpAny (model prog w) A (PySem.getItem (.ref d) key) Q E s := wpAny_getItem_of hkey (kda_dict N hp hd).mapOf hl h
end
theorem li_item {prog : Program} {w : World} {A : Around} {E : Value → Shared → Prop} {s : Shared} {h₀ : Heap} {L : Addr} {news : Led} {value slice : PySem.Expr} {l : Addr} {vs : List Value} {n : Nat} {k : Int} {u : Tok} {v : Value} {Q : Value → Shared → Prop}
    (N : News h₀ L s.heap news) (hp : (l, listOf vs.toArray n) ∈ news) (h0 : 0 ≤ k) (hhi : k < 2 ^ 63) (hx : vs[k.toNat]? = some v) (h : Q v s)
    (hs : subscripted slice false (.ref l) (.int k u) = operate [.ref l, .int k u] (getItem (.ref l) (.int k u)) := by with_unfolding_all rfl) :
    wpAny (model prog w) A (subscriptTail value slice (.ref l) (.int k u)) Q E s :=
  have hl : s.heap.IsList l vs.toArray := ⟨_, (N _ hp).1, rfl, n, rfl⟩
  tail_any hl.typeIs slot_list_getitem.lookup (wpAny_getItem_list hl h0 hhi (by simpa using hx) h) hs
def FillR (F Lt idx : Int) (es : List (Int × Value)) (f : Int → Addr) : Prop := ∀ p, PlaceR F Lt idx p → 0 ≤ p → valueAt es p = some (.ref (f p))
theorem FillR.at {F Lt idx p : Int} {es : List (Int × Value)} {f : Int → Addr} (h : FillR F Lt idx es f) (h1 : PlaceR F Lt idx p) (h2 : 0 ≤ p) : valueAt es p = some (.ref (f p)) := h p h1 h2
theorem place_neg {F Lt idx p : Int} (h : PlaceR F Lt idx p) (h1 : p < 0) : PlaceR F Lt idx (-1) := by
  rcases h with ⟨_, a, _, e⟩ | ⟨_, _, a, e⟩ | h
  · exfalso; omega
  · exfalso; omega
  · exact .inr (.inr ⟨rfl, h.2⟩)
abbrev wordT (W a : Int) (t1 t2 t3 : Tok) : Obj := tup [.int W t1, .int a t2, .int 0 t3]
abbrev isD (w : World) (o : Obj) (es : List (Int × Value)) : Prop := o.IsDictOf (PySem.intKind PySem.Challenge.pw_pq0472_01 w) es
section
variable (K : Params → Frag) (q : Program) (lo : List Str)
def SetFOk : Prop := ∀ (w : World) (mean : ExcName → Option Value) (mg mb : Str → Option Value) (dp un : Nat) (gd : Option (List Code)) (cn : Str) (cs : Scope) (a : Addr) (ccd : Value) (cl : List (Str × Addr)) (outer : List Env) (A₀ : Around) (base h₀ : Heap) (L : Addr) (m : Str → Option Value) (s : Shared) (Q E : Value → Shared → Prop)
    (M : Addr) (oM : Obj) (news : Led) (st dst S sig dsig vt : Addr) (esT esS : List DictEntry) (nT nS nL : Nat) (W val F Lt p : Int) (k1 k2 k3 t1 t2 t3 : Tok),
    Below A₀ base outer h₀ → Fr h₀ L s.heap m → (K w.params).In h₀ → News h₀ L s.heap ((M, oM) :: news) → Top q lo mean mg mb h₀ → cs.kind = .function → (∀ p ∈ news, p.1 ≠ M) →
    isD w oM [] → (M == sysModules) = false → (st, instObj 672 dst) ∈ news → (dst, dictOf esT nT) ∈ news → StoE esT S M → (S, listOf #[.ref sig] nL) ∈ news → sigOf news sig dsig esS nS W F Lt →
    (vt, wordT W val t1 t2 t3) ∈ news → 1 ≤ W → W ≤ 4 → 0 ≤ val → val < 2 ^ W.toNat → 0 ≤ p → (F ≤ Lt → p < Lt - F + 1) → (Lt < F → p < F - Lt + 1) → dp + 6 < recursionLimit → un + 100 + 8 * 6 < cLine →
    (∀ (D y : Addr) (oM' oD : Obj) (u1 u2 u3 : Tok) (h' : Heap) (tk' : Nat), isD w oM' [(0, .ref D)] → isD w oD [(p, .ref y)] → (D == sysModules) = false → Fr h₀ L h' m →
      News h₀ L h' ((D, oD) :: (y, wordT W val u1 u2 u3) :: (M, oM') :: news) → (∀ q ∈ (M, oM') :: news, q.1 < y) → y < D → Q (.bool true) { s with heap := h', toks := tk' }) →
    wpAny (model PySem.Challenge.pw_pq0472_01 w) (ktrTop dp un gd cn cs L a ccd cl outer) (call (.ref 669) [.ref st, .int 0 k1, .int p k2, .int 0 k3, .ref vt]) Q E s
def SetLOk : Prop := ∀ (w : World) (mean : ExcName → Option Value) (mg mb : Str → Option Value) (dp un : Nat) (gd : Option (List Code)) (cn : Str) (cs : Scope) (a : Addr) (ccd : Value) (cl : List (Str × Addr)) (outer : List Env) (A₀ : Around) (base h₀ : Heap) (L : Addr) (m : Str → Option Value) (s : Shared) (Q E : Value → Shared → Prop)
    (D : Addr) (oD : Obj) (news : Led) (M st dst S sig dsig vt : Addr) (oM : Obj) (es : List (Int × Value)) (esT esS : List DictEntry) (nT nS nL : Nat) (W val F Lt p : Int) (k1 k2 k3 t1 t2 t3 : Tok),
    Below A₀ base outer h₀ → Fr h₀ L s.heap m → (K w.params).In h₀ → News h₀ L s.heap ((D, oD) :: news) → Top q lo mean mg mb h₀ → cs.kind = .function → (∀ p ∈ news, p.1 ≠ D) →
    (M, oM) ∈ news → isD w oM [(0, .ref D)] → (M == sysModules) = false → isD w oD es → (D == sysModules) = false → valueAt es p = none → es.length ≤ 5 →
    (st, instObj 672 dst) ∈ news → (dst, dictOf esT nT) ∈ news → StoE esT S M → (S, listOf #[.ref sig] nL) ∈ news → sigOf news sig dsig esS nS W F Lt →
    (vt, wordT W val t1 t2 t3) ∈ news → 1 ≤ W → W ≤ 4 → 0 ≤ val → val < 2 ^ W.toNat → 0 ≤ p → (F ≤ Lt → p < Lt - F + 1) → (Lt < F → p < F - Lt + 1) → dp + 6 < recursionLimit → un + 100 + 8 * 6 < cLine →
    (∀ (y : Addr) (oD' : Obj) (u1 u2 u3 : Tok) (h' : Heap) (tk' : Nat), isD w oD' (stored es p (.ref y)) → Fr h₀ L h' m →
      News h₀ L h' ((D, oD') :: (y, wordT W val u1 u2 u3) :: news) → (∀ q ∈ (D, oD') :: news, q.1 < y) → Q (.bool true) { s with heap := h', toks := tk' }) →
    wpAny (model PySem.Challenge.pw_pq0472_01 w) (ktrTop dp un gd cn cs L a ccd cl outer) (call (.ref 669) [.ref st, .int 0 k1, .int p k2, .int 0 k3, .ref vt]) Q E s
def MemWOk : Prop := ∀ (w : World) (mean : ExcName → Option Value) (mg mb : Str → Option Value) (dp un : Nat) (gd : Option (List Code)) (cn : Str) (cs : Scope) (a : Addr) (ccd : Value) (cl : List (Str × Addr)) (outer : List Env) (A₀ : Around) (base h₀ : Heap) (L : Addr) (m : Str → Option Value) (s : Shared) (Q E : Value → Shared → Prop)
    (news : Led) (et ei ctx dctx M D st dst S sig dsig : Addr) (oM oD : Obj) (es : List (Int × Value)) (f : Int → Addr) (esC esT esS : List DictEntry) (nC nT nS nL : Nat) (W F Lt fig unk : Int) (sg : Bool) (ta tb tc td k1 k2 k3 : Tok),
    Below A₀ base outer h₀ → Fr h₀ L s.heap m → (K w.params).In h₀ → News h₀ L s.heap news → Top q lo mean mg mb h₀ → cs.kind = .function →
    (et, tup [.str (Str.ofString "word") k1, .int W k2, .int 0 k3, .ref ei, .bool sg]) ∈ news → (ei, idxE fig unk ta tb tc td) ∈ news → -100 ≤ fig → fig ≤ 100 → (unk = 0 ∨ unk = 4) →
    (ctx, instObj 715 dctx) ∈ news → (dctx, dictOf esC nC) ∈ news → getL (Str.ofString "store") esC = some (some (.ref st)) →
    (M, oM) ∈ news → isD w oM [(0, .ref D)] → (M == sysModules) = false → (D, oD) ∈ news → isD w oD es → (D == sysModules) = false →
    (st, instObj 672 dst) ∈ news → (dst, dictOf esT nT) ∈ news → StoE esT S M → (S, listOf #[.ref sig] nL) ∈ news → sigOf news sig dsig esS nS W F Lt → 1 ≤ W → W ≤ 4 →
    FillR F Lt (if sg then fig else fig.fmod 256) es f → dp + 6 < recursionLimit → un + 100 + 8 * 6 < cLine →
    (∀ (x : Addr) (u1 u2 u3 : Tok) (h' : Heap) (tk' : Nat), (unk = 4 ∨ (unk = 0 ∧ PlaceR F Lt (if sg then fig else fig.fmod 256) (-1))) → Fr h₀ L h' m → News h₀ L h' ((x, tup [.int W u1, .int (2 ^ W.toNat - 1) u2, .int (2 ^ W.toNat - 1) u3]) :: news) → (∀ q ∈ news, q.1 < x) → Q (.ref x) { s with heap := h', toks := tk' }) →
    (∀ (p : Int) (h' : Heap) (tk' : Nat), unk = 0 → PlaceR F Lt (if sg then fig else fig.fmod 256) p → 0 ≤ p → Fr h₀ L h' m → News h₀ L h' news → Q (.ref (f p)) { s with heap := h', toks := tk' }) →
    wpAny (model PySem.Challenge.pw_pq0472_01 w) (ktrTop dp un gd cn cs L a ccd cl outer) (call (.ref 468) [.ref et, .ref ctx]) Q E s
end
theorem sub2 {a b : Addr × Obj} {news l : Led} (ha : a ∈ l) (hb : b ∈ l) (hn : ∀ p ∈ news, p ∈ l) : ∀ p ∈ a :: b :: news, p ∈ l := fun p hp => by
  rcases List.mem_cons.mp hp with rfl | hp
  · exact ha
  · rcases List.mem_cons.mp hp with rfl | hp
    · exact hb
    · exact hn p hp
theorem sub3 {a b c : Addr × Obj} {news l : Led} (ha : a ∈ l) (hb : b ∈ l) (hc : c ∈ l) (hn : ∀ p ∈ news, p ∈ l) : ∀ p ∈ a :: b :: c :: news, p ∈ l := fun p hp => by
  rcases List.mem_cons.mp hp with rfl | hp
  · exact ha
  · exact sub2 hb hc hn p hp
theorem ltM {M y z1 z2 : Addr} {o : Obj} {news : Led} (h : z1 < y ∧ z2 < y ∧ M < y ∧ AllLt y news) : ∀ q ∈ (M, o) :: news, q.1 < y := fun q hq => by
  rcases List.mem_cons.mp hq with rfl | hq
  · exact h.2.2.1
  · exact ktn_ltOf h.2.2.2 q hq
theorem set_ne {x : Int} {W : Int} (hW : 1 ≤ W) (h : (x == 2 ^ W.toNat - 1 && (0 : Int) == 2 ^ W.toNat - 1) = true) : False := by
  have h1 := (Bool.and_eq_true_iff.mp h).2
  rw [beq_iff_eq] at h1
  have e1 : W.toNat = (W - 1).toNat + 1 := by omega
  rw [e1, Int.pow_succ] at h1
  have h2 := kbt_pos (W - 1).toNat
  omega
section
variable {K : Params → Frag} {q : Program} {lo : List Str} {w : World} {mean : ExcName → Option Value} {mg mb : Str → Option Value} {dp un : Nat} {gd : Option (List Code)} {cn : Str} {cs : Scope} {a : Addr} {ccd : Value} {cl : List (Str × Addr)} {outer : List Env} {A₀ : Around} {base h₀ : Heap} {L : Addr} {m : Str → Option Value} {s : Shared} {Q E : Value → Shared → Prop}
  {news : Led} {g : Obj → Led} {M D st dst S sig dsig vt : Addr} {oM oD : Obj} {es : List (Int × Value)} {esT esS : List DictEntry} {nT nS nL : Nat} {W val F Lt p : Int} {k1 k2 k3 t1 t2 t3 : Tok}
theorem SetFOk.use (C : SetFOk K q lo) (B : Below A₀ base outer h₀) (Fm : Fr h₀ L s.heap m) (X : (K w.params).In h₀) (N : News h₀ L s.heap news) (T : Top q lo mean mg mb h₀) (hk : cs.kind = .function) (U : UpdF M oM news g)
    (hM : isD w oM []) (loM : (M == sysModules) = false) (m1 : (st, instObj 672 dst) ∈ news) (n1 : st ≠ M) (m2 : (dst, dictOf esT nT) ∈ news) (n2 : dst ≠ M) (hT : StoE esT S M) (m3 : (S, listOf #[.ref sig] nL) ∈ news) (n3 : S ≠ M)
    (hG : sigOf news sig dsig esS nS W F Lt) (n4 : sig ≠ M) (n5 : dsig ≠ M) (m4 : (vt, wordT W val t1 t2 t3) ∈ news) (n6 : vt ≠ M) (w1 : 1 ≤ W) (w2 : W ≤ 4) (v1 : 0 ≤ val) (v2 : val < 2 ^ W.toNat) (p0 : 0 ≤ p) (p1 : F ≤ Lt → p < Lt - F + 1) (p2 : Lt < F → p < F - Lt + 1)
    (hd : dp + 6 < recursionLimit) (hu : un + 100 + 8 * 6 < cLine)
    (h : ∀ (D y : Addr) (oM' oD : Obj) (u1 u2 u3 : Tok) (h' : Heap) (tk' : Nat), isD w oM' [(0, .ref D)] → isD w oD [(p, .ref y)] → (D == sysModules) = false → Fr h₀ L h' m →
      News h₀ L h' ((D, oD) :: (y, wordT W val u1 u2 u3) :: g oM') → (∀ q ∈ g oM', q.1 < y) → y < D → Q (.bool true) { s with heap := h', toks := tk' }) :
    wpAny (model PySem.Challenge.pw_pq0472_01 w) (ktrTop dp un gd cn cs L a ccd cl outer) (call (.ref 669) [.ref st, .int 0 k1, .int p k2, .int 0 k3, .ref vt]) Q E s := by
  obtain ⟨rest, hne, hg, rfl⟩ := updF_cons U
  have mem : ∀ x : Addr × Obj, x ∈ g oM → x.1 ≠ M → x ∈ rest := fun x hx hn => by
    rcases List.mem_cons.mp ((hg _ _).mp hx) with rfl | hx
    · exact absurd rfl hn
    · exact hx
  exact C w mean mg mb dp un gd cn cs a ccd cl outer A₀ base h₀ L m s Q E M oM rest st dst S sig dsig vt esT esS nT nS nL W val F Lt p k1 k2 k3 t1 t2 t3 B Fm X (dropTo N fun x hx => (hg _ x).mpr hx) T hk hne hM loM (mem _ m1 n1) (mem _ m2 n2) hT (mem _ m3 n3)
    ⟨mem _ hG.1 n4, mem _ hG.2.1 n5, hG.2.2⟩ (mem _ m4 n6) w1 w2 v1 v2 p0 p1 p2 hd hu fun D y oM' oD u1 u2 u3 h' tk' a1 a2 a3 a4 a5 a6 a7 => h D y oM' oD u1 u2 u3 h' tk' a1 a2 a3 a4
      (dropTo a5 (sub2 (.head _) (.tail _ (.head _)) fun x hx => .tail _ (.tail _ ((hg _ x).mp hx)))) (fun x hx => a6 x ((hg _ x).mp hx)) a7
theorem SetLOk.use (C : SetLOk K q lo) (B : Below A₀ base outer h₀) (Fm : Fr h₀ L s.heap m) (X : (K w.params).In h₀) (N : News h₀ L s.heap news) (T : Top q lo mean mg mb h₀) (hk : cs.kind = .function) (U : UpdF D oD news g)
    (m0 : (M, oM) ∈ news) (n0 : M ≠ D) (hM : isD w oM [(0, .ref D)]) (loM : (M == sysModules) = false) (hD : isD w oD es) (loD : (D == sysModules) = false) (hv : valueAt es p = none) (hlen : es.length ≤ 5)
    (m1 : (st, instObj 672 dst) ∈ news) (n1 : st ≠ D) (m2 : (dst, dictOf esT nT) ∈ news) (n2 : dst ≠ D) (hT : StoE esT S M) (m3 : (S, listOf #[.ref sig] nL) ∈ news) (n3 : S ≠ D)
    (hG : sigOf news sig dsig esS nS W F Lt) (n4 : sig ≠ D) (n5 : dsig ≠ D) (m4 : (vt, wordT W val t1 t2 t3) ∈ news) (n6 : vt ≠ D) (w1 : 1 ≤ W) (w2 : W ≤ 4) (v1 : 0 ≤ val) (v2 : val < 2 ^ W.toNat) (p0 : 0 ≤ p) (p1 : F ≤ Lt → p < Lt - F + 1) (p2 : Lt < F → p < F - Lt + 1)
    (hd : dp + 6 < recursionLimit) (hu : un + 100 + 8 * 6 < cLine)
    (h : ∀ (y : Addr) (oD' : Obj) (u1 u2 u3 : Tok) (h' : Heap) (tk' : Nat), isD w oD' (stored es p (.ref y)) → Fr h₀ L h' m →
      News h₀ L h' ((y, wordT W val u1 u2 u3) :: g oD') → (∀ q ∈ g oD', q.1 < y) → Q (.bool true) { s with heap := h', toks := tk' }) :
    wpAny (model PySem.Challenge.pw_pq0472_01 w) (ktrTop dp un gd cn cs L a ccd cl outer) (call (.ref 669) [.ref st, .int 0 k1, .int p k2, .int 0 k3, .ref vt]) Q E s := by
  obtain ⟨rest, hne, hg, rfl⟩ := updF_cons U
  have mem : ∀ x : Addr × Obj, x ∈ g oD → x.1 ≠ D → x ∈ rest := fun x hx hn => by
    rcases List.mem_cons.mp ((hg _ _).mp hx) with rfl | hx
    · exact absurd rfl hn
    · exact hx
  exact C w mean mg mb dp un gd cn cs a ccd cl outer A₀ base h₀ L m s Q E D oD rest M st dst S sig dsig vt oM es esT esS nT nS nL W val F Lt p k1 k2 k3 t1 t2 t3 B Fm X (dropTo N fun x hx => (hg _ x).mpr hx) T hk hne (mem _ m0 n0) hM loM hD loD hv hlen (mem _ m1 n1) (mem _ m2 n2) hT (mem _ m3 n3)
    ⟨mem _ hG.1 n4, mem _ hG.2.1 n5, hG.2.2⟩ (mem _ m4 n6) w1 w2 v1 v2 p0 p1 p2 hd hu fun y oD' u1 u2 u3 h' tk' a1 a2 a3 a4 => h y oD' u1 u2 u3 h' tk' a1 a2
      (dropTo a3 fun x hx => by
        rcases List.mem_cons.mp hx with rfl | hx
        · exact .tail _ (.head _)
        · rcases List.mem_cons.mp ((hg _ x).mp hx) with rfl | hx
          · exact .head _
          · exact .tail _ (.tail _ hx)) (fun x hx => a4 x ((hg _ x).mp hx))
end
section
variable {prog : Program} {w : World} {A : Around} {E : Value → Shared → Prop} {s : Shared} {env : Env} {h₀ : Heap} {x : Str} {body : List Stmt} {Q : Flow → Shared → Prop} {I : Addr} {a : Int} {n : Nat}
/-- a loop over a range, by what holds of the frame and the ledger ahead of turn i -/
theorem range_ind (J : Nat → (Str → Option Value) → Led → Prop)
    (turn : ∀ i m news, i < n → J i m news → ∀ t h tk, Fr h₀ env.locals h (fun y => if y = x then some (.int (a + (i : Int)) t) else m y) →
      News h₀ env.locals h ((I, itR (a + ((i + 1 : Nat) : Int)) ((n : Int) - ((i + 1 : Nat) : Int))) :: news) →
      wpAny (model prog w) A (execs body env) (UnrPost h₀ env.locals { s with heap := h, toks := tk } I (itR (a + ((i + 1 : Nat) : Int)) ((n : Int) - ((i + 1 : Nat) : Int))) (J (i + 1)) Q) E { s with heap := h, toks := tk })
    (fin : ∀ m news, J n m news → ∀ h tk, Fr h₀ env.locals h m → News h₀ env.locals h news → Q .next { s with heap := h, toks := tk }) :
    ∀ k i m news, i + k = n → J i m news → RangeRest prog w A E h₀ env x body Q s I a n k i m news
  | 0, i, m, news, hi, hj => by
    have e : i = n := by omega
    subst e
    exact RangeRest.zero fun h tk F N => fin m news hj h tk F N
  | k + 1, i, m, news, hi, hj => RangeRest.succ fun t h tk F N =>
    wpAny_mono (turn i m news (by omega) hj t h tk F N) (fun f s₂ hp => by
      unfold UnrPost at hp ⊢
      split at hp <;> rename_i hf
      · exact hp
      · exact hp
      · obtain ⟨h', tk', m', news', e1, F', N', off, r⟩ := hp
        exact ⟨h', tk', m', news', e1, F', N', off, range_ind J turn fin k (i + 1) m' news' (by omega) r⟩) fun _ _ x => x
end
structure MInv (W : Int) (i : Nat) (es : List (Int × Value)) (ws : Array Value) (tail : Led) (f g : Int → Addr) (av : Int → Int) : Prop where
  len : ws.size = i
  elen : es.length = i
  none : ∀ j : Int, (i : Int) ≤ j → valueAt es j = Option.none
  at_ : ∀ j : Int, 0 ≤ j → j < i → ws[j.toNat]? = some (.ref (g j)) ∧ valueAt es j = some (.ref (f j)) ∧ (∃ t1 t2 t3, (g j, wordT W (av j) t1 t2 t3) ∈ tail) ∧ ∃ t1 t2 t3, (f j, wordT W (av j) t1 t2 t3) ∈ tail
theorem valueAt_snoc {es : List (Int × Value)} {k j : Int} {v : Value} (h : valueAt es k = Option.none) : valueAt (stored es k v) j = if j = k then some v else valueAt es j := by
  rw [stored_absent h]
  unfold valueAt at h ⊢
  rw [List.find?_append]
  by_cases e : j = k
  · subst e
    rw [if_pos rfl]
    cases hf : es.find? (fun kv => decide (kv.1 = j)) with
    | none => simp
    | some p => rw [hf] at h; simp at h
  · rw [if_neg e]
    cases hf : es.find? (fun kv => decide (kv.1 = j)) with
    | none => simp [Ne.symm e]
    | some p => simp
theorem MInv.next {W val : Int} {i : Nat} {es : List (Int × Value)} {ws : Array Value} {tail tail' : Led} {f g : Int → Addr} {av : Int → Int} {x y : Addr} {t1 t2 t3 u1 u2 u3 : Tok} (H : MInv W i es ws tail f g av)
    (hx : (x, wordT W val t1 t2 t3) ∈ tail') (hy : (y, wordT W val u1 u2 u3) ∈ tail') (hs : ∀ p ∈ tail, p ∈ tail') :
    MInv W (i + 1) (stored es (i : Int) (.ref y)) (ws.push (.ref x)) tail' (fun j => if j = i then y else f j) (fun j => if j = i then x else g j) (fun j => if j = i then val else av j) := by
  have hn := H.none i (Int.le_refl _)
  refine ⟨by rw [Array.size_push, H.len], by rw [stored_absent hn, List.length_append, H.elen]; rfl, fun j hj => ?_, fun j h0 h1 => ?_⟩
  · rw [valueAt_snoc hn, if_neg (by omega)]
    exact H.none j (by omega)
  · rw [valueAt_snoc hn]
    by_cases e : j = i
    · subst e
      simp only [if_true]
      refine ⟨?_, trivial, ⟨_, _, _, hx⟩, ⟨_, _, _, hy⟩⟩
      rw [Int.toNat_natCast, ← H.len, Array.getElem?_push_size]
    · simp only [e, if_false]
      obtain ⟨a1, a2, ⟨b1, b2, b3, hb⟩, ⟨c1, c2, c3, hc⟩⟩ := H.at_ j h0 (by omega)
      refine ⟨?_, a2, ⟨_, _, _, hs _ hb⟩, ⟨_, _, _, hs _ hc⟩⟩
      rw [Array.getElem?_push, if_neg (by rw [H.len]; omega)]
      exact a1
theorem MInv.zero {W : Int} {tail : Led} {f g : Int → Addr} {av : Int → Int} : MInv W 0 [] #[] tail f g av := ⟨rfl, rfl, fun _ _ => rfl, fun j h0 h1 => by omega⟩
def nthA : Led → Nat → Addr
  | [], _ => 0
  | p :: _, 0 => p.1
  | _ :: r, k + 1 => nthA r k
def ledOf {h₀ h : Heap} {L : Addr} {news : Led} (_ : News h₀ L h news) : Led := news
theorem subC {a : Addr × Obj} {r l : Led} (ha : a ∈ l) (hr : ∀ p ∈ r, p ∈ l) : ∀ p ∈ a :: r, p ∈ l := fun p hp => by
  rcases List.mem_cons.mp hp with rfl | hp
  · exact ha
  · exact hr p hp
structure JNames (m : Str → Option Value) (l c st : Addr) (W low size : Int) (bf : Bool) : Prop where
  clay : m (Str.ofString "clay") = some (.ref c)
  low : ∃ t, m (Str.ofString "low") = some (.int low t)
  size : ∃ t, m (Str.ofString "size") = some (.int size t)
  falls : m (Str.ofString "falls") = some (.bool bf)
  wide : ∃ t, m (Str.ofString "wide") = some (.int W t)
  store : m (Str.ofString "store") = some (.ref st)
  words : m (Str.ofString "words") = some (.ref l)
structure JFacts (w : World) (W F Lt : Int) (l c M D S I : Addr) (oM oD : Obj) (esT esS : List DictEntry) (es : List (Int × Value)) (vs : List Value) (ns : List Int) (tail news₀ : Led) : Prop where
  isM : isD w oM [(0, .ref D)]
  isD_ : isD w oD es
  loD : (D == sysModules) = false
  sto : StoE esT S M
  sig : SigE esS W F Lt
  iare : IntsAre vs ns
  vlen : vs.length ≤ 50
  after : @LT.lt Nat _ I D
  tl : ∀ p ∈ tail, p.1 ≠ l
  tc : ∀ p ∈ tail, p.1 ≠ c
  tD : ∀ p ∈ tail, p.1 ≠ D
  tI : ∀ p ∈ tail, p.1 ≠ I
  tn : ∀ p ∈ news₀, p ∈ tail
def JMem (w : World) (news₀ : Led) (l c M st dst S sig dsig I : Addr) (W F Lt low size : Int) (bf : Bool) (i : Nat) (m : Str → Option Value) (news : Led) : Prop :=
  ∃ (D : Addr) (oM oD : Obj) (esT esS : List DictEntry) (nT nS nSl nl nc : Nat) (es : List (Int × Value)) (ws : Array Value) (vs : List Value) (ns : List Int) (tail : Led) (f g : Int → Addr) (av : Int → Int),
    JNames m l c st W low size bf ∧ MInv W i es ws tail f g av ∧ JFacts w W F Lt l c M D S I oM oD esT esS es vs ns tail news₀ ∧
    news = (l, listOf ws nl) :: (c, listOf vs.toArray nc) :: (M, oM) :: (D, oD) :: (st, instObj 672 dst) :: (dst, dictOf esT nT) :: (S, listOf #[.ref sig] nSl) :: (sig, instObj 567 dsig) :: (dsig, dictOf esS nS) :: tail
section
variable (K : Params → Frag) (q : Program) (lo : List Str)
def ClayOk : Prop := ∀ (w : World) (mean : ExcName → Option Value) (mg mb : Str → Option Value) (dp un : Nat) (gd : Option (List Code)) (cn : Str) (cs : Scope) (a : Addr) (ccd : Value) (cl : List (Str × Addr)) (outer : List Env) (A₀ : Around) (base h₀ : Heap) (L : Addr) (m : Str → Option Value) (s : Shared) (Q E : Value → Shared → Prop)
    (sl : Addr) (vs : List Value) (ns : List Int) (news : Led),
    Below A₀ base outer h₀ → Fr h₀ L s.heap m → (K w.params).In h₀ → News h₀ L s.heap news → Top q lo mean mg mb h₀ → cs.kind = .function →
    ns.length ≤ 63 → h₀.IsList sl vs.toArray → IntsAre vs ns → dp + 6 < recursionLimit → un + 100 + 8 * 6 < cLine →
    (∀ (x : Addr) (h' : Heap) (tk' : Nat) (vs' : List Value) (ns' : List Int) (n' : Nat), IntsAre vs' ns' → vs'.length ≤ 50 → Fr h₀ L h' m → News h₀ L h' ((x, listOf vs'.toArray n') :: news) → (∀ q ∈ news, q.1 < x) → Q (.ref x) { s with heap := h', toks := tk' }) →
    wpAny (model PySem.Challenge.pw_pq0472_01 w) (ktrTop dp un gd cn cs L a ccd cl outer) (call (.ref 726) [.ref sl]) Q E s
end
theorem ne_cons {a z : Addr} {o : Obj} {r : Led} (h1 : a ≠ z) (h2 : ∀ p ∈ r, p.1 ≠ z) : ∀ p ∈ (a, o) :: r, p.1 ≠ z := fun p hp => by
  rcases List.mem_cons.mp hp with rfl | hp
  · exact h1
  · exact h2 p hp
theorem ne_lt {z : Addr} {r : Led} (h : AllLt z r) : ∀ p ∈ r, p.1 ≠ z := fun p hp => Nat.ne_of_lt (ktn_ltOf h p hp)
section
variable {prog : Program} {w : World} {A : Around} {E : Value → Shared → Prop} {s : Shared} {h₀ : Heap} {L D : Addr} {m : Str → Option Value} {news news' : Led} {vs : List Value} {n : Nat}
theorem rev_list {Q : Value → Shared → Prop} (F : Fr h₀ L s.heap m) (N : News h₀ L s.heap news) (U : Upd D (listOf vs.toArray n) (listOf vs.reverse.toArray n) news news') (hz : vs.length ≤ sizeLine)
    (h : ∀ h', Fr h₀ L h' m → News h₀ L h' news' → Q .none { s with heap := h' }) : wpAny (model prog w) A (call (.builtin "list.reverse") [.ref D]) Q E s :=
  kl_reverse (its := vs.toArray) F N (by simp) U (by simpa using hz) h
end
theorem tok_gen {M : Model} {A : Around} {α : Type} {t : Sem α} {Q : α → Shared → Prop} {E : Value → Shared → Prop} {h g d o} {T : Nat} (H : ∀ tk, wpAny M A t Q E (Shared.mk h g d tk o)) : wpAny M A t Q E (Shared.mk h g d (T + 1 + 1 + 1) o) := H _
theorem const_K {M : Model} {A : Around} {E : Value → Shared → Prop} {env : Env} {i : Int} {k : Nat} {pos : Pos} {Q : Value → Shared → Prop} {h g d o T} (H : ∀ t T', Q (Value.int i t) (Shared.mk h g d T' o)) : wpAny M A (eval (Expr.Constant (Const.int i) k pos) env) Q E (Shared.mk h g d T o) := wpAny_Constant_int (H _ _)
theorem add_K {prog : Program} {w : World} {A : Around} {E : Value → Shared → Prop} {a b : Int} {t u : Tok} {Q : Value → Shared → Prop} {h g d o T} (H : ∀ t T', Q (Value.int (a + b) t) (Shared.mk h g d T' o)) : wpAny (model prog w) A (binaryOp Operator.Add (Value.int a t) (Value.int b u)) Q E (Shared.mk h g d T o) := add_int (H _ _)
theorem sub_K {prog : Program} {w : World} {A : Around} {E : Value → Shared → Prop} {a b : Int} {t u : Tok} {Q : Value → Shared → Prop} {h g d o T} (H : ∀ t T', Q (Value.int (a - b) t) (Shared.mk h g d T' o)) : wpAny (model prog w) A (binaryOp Operator.Sub (Value.int a t) (Value.int b u)) Q E (Shared.mk h g d T o) := sub_int (H _ _)
theorem gens_K {M : Model} {A : Around} {α : Type} {t : Sem α} {Q : α → Shared → Prop} {E : Value → Shared → Prop} {h d o T} {z : Shared} (_ : Halt True) (H : wpAny M A t Q E (Shared.mk h (Shared.gens z) d T o)) : wpAny M A t Q E (Shared.mk h (Shared.gens z) d T o) := H
theorem le_size {k : Nat} (h : k ≤ 100) : k ≤ sizeLine := by rw [sizeLine_eq]; omega
section
variable {K : Params → Frag} {q : Program} {lo : List Str} {w : World} {mean : ExcName → Option Value} {mg mb : Str → Option Value} {dp un : Nat} {gd : Option (List Code)} {cn : Str} {cs : Scope} {a : Addr} {ccd : Value} {cl : List (Str × Addr)} {outer : List Env} {A₀ : Around} {base h₀ : Heap} {L : Addr} {m : Str → Option Value} {s : Shared} {Q E : Value → Shared → Prop}
  {news : Led} {sl : Addr} {vs : List Value} {ns : List Int}
theorem ClayOk.use (C : ClayOk K q lo) (B : Below A₀ base outer h₀) (Fm : Fr h₀ L s.heap m) (X : (K w.params).In h₀) (N : News h₀ L s.heap news) (T : Top q lo mean mg mb h₀) (hk : cs.kind = .function)
    (hn : ns.length ≤ 63) (hl : h₀.IsList sl vs.toArray) (hI : IntsAre vs ns) (hd : dp + 6 < recursionLimit) (hu : un + 100 + 8 * 6 < cLine)
    (h : ∀ (x : Addr) (h' : Heap) (tk' : Nat) (vs' : List Value) (ns' : List Int) (n' : Nat), IntsAre vs' ns' → vs'.length ≤ 50 → Fr h₀ L h' m → News h₀ L h' ((x, listOf vs'.toArray n') :: news) → (∀ q ∈ news, q.1 < x) → Q (.ref x) { s with heap := h', toks := tk' }) :
    wpAny (model PySem.Challenge.pw_pq0472_01 w) (ktrTop dp un gd cn cs L a ccd cl outer) (call (.ref 726) [.ref sl]) Q E s :=
  C w mean mg mb dp un gd cn cs a ccd cl outer A₀ base h₀ L m s Q E sl vs ns news B Fm X N T hk hn hl hI hd hu h
end
def JoinI (x : Int) (s : Shared) (v : Value) (s' : Shared) : Prop := ∃ t tk, v = .int x t ∧ s' = { s with toks := tk }
theorem join_int {M : Model} {A : Around} {t : Sem Value} {Q : Value → Shared → Prop} {E : Value → Shared → Prop} {s : Shared} (x : Int) (h : wpAny M A t (JoinI x s) E s) (k : ∀ t tk, Q (.int x t) { s with toks := tk }) : wpAny M A t Q E s :=
  wpAny_mono h (fun v s' hj => by obtain ⟨t, tk, e1, e2⟩ := hj; subst e1 e2; exact k t tk) (fun _ _ h => h)
theorem JoinI.of {x y : Int} {t : Tok} {tk : Nat} {s s' : Shared} (e : y = x) (hs : s' = { s with toks := tk }) : JoinI x s (.int y t) s' := ⟨t, tk, by rw [e], hs⟩
theorem allLt_up {x y : Addr} : ∀ {news : Led}, AllLt x news → LT.lt (α := Nat) x y → AllLt y news
  | [], _, _ => trivial
  | _ :: _, h, hl => ⟨Nat.lt_trans h.1 hl, allLt_up h.2 hl⟩
structure MOrd (c S dsig sig dst st M l : Addr) (news : Led) : Prop where
  o1 : LT.lt (α := Nat) c S
  o2 : LT.lt (α := Nat) S dsig
  o3 : LT.lt (α := Nat) dsig sig
  o4 : LT.lt (α := Nat) sig dst
  o5 : LT.lt (α := Nat) dst st
  o6 : LT.lt (α := Nat) st M
  o7 : LT.lt (α := Nat) M l
  al : AllLt S news
structure MBd (W low size F Lt : Int) (bf : Bool) : Prop where
  w1 : 1 ≤ W
  w2 : W ≤ 4
  l1 : -2 ≤ low
  l2 : low ≤ 2
  s1 : 2 ≤ size
  s2 : size ≤ 5
  f1 : bf = true → F = low + size - 1 ∧ Lt = low
  f2 : bf = false → F = low ∧ Lt = low + size - 1
structure MCtx (w : World) (h₀ h : Heap) (L : Addr) (news : Led) (m : Str → Option Value) (c l M st dst S sig dsig : Addr) (oM : Obj) (esT esS : List DictEntry) (nT nS nSl nl nc : Nat) (W low size F Lt : Int) (bf : Bool) (vs : List Value) (ns : List Int) : Prop where
  fr : Fr h₀ L h m
  nw : News h₀ L h ((l, listOf #[] nl) :: (c, listOf vs.toArray nc) :: (M, oM) :: (st, instObj 672 dst) :: (dst, dictOf esT nT) :: (S, listOf #[.ref sig] nSl) :: (sig, instObj 567 dsig) :: (dsig, dictOf esS nS) :: news)
  nm : JNames m l c st W low size bf
  isM : isD w oM []
  loM : (M == sysModules) = false
  sto : StoE esT S M
  sge : SigE esS W F Lt
  ia : IntsAre vs ns
  vl : vs.length ≤ 50
  ord : MOrd c S dsig sig dst st M l news
  bd : MBd W low size F Lt bf
theorem MCtx.ex {w : World} {h₀ h : Heap} {L : Addr} {news : Led} {m : Str → Option Value} {c l M st dst S sig dsig : Addr} {oM : Obj} {esT esS : List DictEntry} {nT nS nSl nl nc : Nat} {W low size F Lt : Int} {bf : Bool} {vs : List Value} {ns : List Int}
    (H : MCtx w h₀ h L news m c l M st dst S sig dsig oM esT esS nT nS nSl nl nc W low size F Lt bf vs ns) :
    ∃ (m : Str → Option Value) (oM : Obj) (esT esS : List DictEntry) (nT nS nSl nl nc : Nat) (W low size F Lt : Int) (bf : Bool) (vs : List Value) (ns : List Int), MCtx w h₀ h L news m c l M st dst S sig dsig oM esT esS nT nS nSl nl nc W low size F Lt bf vs ns :=
  ⟨_, _, _, _, _, _, _, _, _, _, _, _, _, _, _, _, _, H⟩
theorem mbd_of {rw rn rf rl : Int} (a1 : 0 ≤ rw) (a2 : rw < 4) (b1 : 0 ≤ rn) (b2 : rn < 4) (d1 : 0 ≤ rl) (d2 : rl < 5) {F Lt : Int} (hF : F = if rf = 0 then rl - 2 + (2 + rn) - 1 else rl - 2) (hL : Lt = if rf = 0 then rl - 2 else rl - 2 + (2 + rn) - 1) :
    MBd (1 + rw) (rl - 2) (2 + rn) F Lt (decide (rf = 0)) := by
  refine ⟨by omega, by omega, by omega, by omega, by omega, by omega, fun h => ?_, fun h => ?_⟩
  · have h := of_decide_eq_true h
    rw [hF, hL, if_pos h, if_pos h]
    exact ⟨rfl, rfl⟩
  · have h := of_decide_eq_false h
    rw [hF, hL, if_neg h, if_neg h]
    exact ⟨rfl, rfl⟩
theorem ff_of {low size F Lt : Int} {bf : Bool} (l1 : -2 ≤ low) (l2 : low ≤ 2) (s1 : 2 ≤ size) (s2 : size ≤ 5) (h1 : bf = true → F = low + size - 1 ∧ Lt = low) (h2 : bf = false → F = low ∧ Lt = low + size - 1) :
    -20 ≤ F ∧ F ≤ 20 ∧ -20 ≤ Lt ∧ Lt ≤ 20 ∧ (F ≤ Lt → size = Lt - F + 1) ∧ (Lt < F → size = F - Lt + 1) := by
  cases bf with
  | true => obtain ⟨h, h'⟩ := h1 rfl; clear h1 h2; exact ⟨by omega, by omega, by omega, by omega, by omega, by omega⟩
  | false => obtain ⟨h, h'⟩ := h2 rfl; clear h1 h2; exact ⟨by omega, by omega, by omega, by omega, by omega, by omega⟩
structure MMark : Prop where
  one : True
structure DMark : Prop where
  one : True
section
variable {K : Params → Frag} {q : Program} {lo : List Str} {w : World} {mean : ExcName → Option Value} {mg mb : Str → Option Value} {dp un : Nat} {gd : Option (List Code)} {cn : Str} {cs : Scope} {a : Addr} {ccd : Value} {cl : List (Str × Addr)} {outer : List Env} {A₀ : Around} {base h₀ : Heap} {L : Addr} {m : Str → Option Value} {s : Shared} {Q E : Value → Shared → Prop}
  {news : Led} {et ei ctx dctx M D st dst S sig dsig : Addr} {oM oD : Obj} {es : List (Int × Value)} {f : Int → Addr} {esC esT esS : List DictEntry} {nC nT nS nL : Nat} {W F Lt fig unk : Int} {sg : Bool} {ta tb tc td k1 k2 k3 : Tok}
theorem MemWOk.use (C : MemWOk K q lo) (B : Below A₀ base outer h₀) (Fm : Fr h₀ L s.heap m) (X : (K w.params).In h₀) (N : News h₀ L s.heap news) (T : Top q lo mean mg mb h₀) (hk : cs.kind = .function)
    (m1 : (et, tup [.str (Str.ofString "word") k1, .int W k2, .int 0 k3, .ref ei, .bool sg]) ∈ news) (m2 : (ei, idxE fig unk ta tb tc td) ∈ news) (f1 : -100 ≤ fig) (f2 : fig ≤ 100) (hunk : unk = 0 ∨ unk = 4)
    (m3 : (ctx, instObj 715 dctx) ∈ news) (m4 : (dctx, dictOf esC nC) ∈ news) (hC : getL (Str.ofString "store") esC = some (some (.ref st)))
    (m5 : (M, oM) ∈ news) (hM : isD w oM [(0, .ref D)]) (loM : (M == sysModules) = false) (m6 : (D, oD) ∈ news) (hD : isD w oD es) (loD : (D == sysModules) = false)
    (m7 : (st, instObj 672 dst) ∈ news) (m8 : (dst, dictOf esT nT) ∈ news) (hT : StoE esT S M) (m9 : (S, listOf #[.ref sig] nL) ∈ news) (hG : sigOf news sig dsig esS nS W F Lt) (w1 : 1 ≤ W) (w2 : W ≤ 4)
    (hfill : FillR F Lt (if sg then fig else fig.fmod 256) es f) (hd : dp + 6 < recursionLimit) (hu : un + 100 + 8 * 6 < cLine)
    (hx : ∀ (x : Addr) (u1 u2 u3 : Tok) (h' : Heap) (tk' : Nat), (unk = 4 ∨ (unk = 0 ∧ PlaceR F Lt (if sg then fig else fig.fmod 256) (-1))) → Fr h₀ L h' m → News h₀ L h' ((x, tup [.int W u1, .int (2 ^ W.toNat - 1) u2, .int (2 ^ W.toNat - 1) u3]) :: news) → (∀ q ∈ news, q.1 < x) → Q (.ref x) { s with heap := h', toks := tk' })
    (hy : ∀ (p : Int) (h' : Heap) (tk' : Nat), unk = 0 → PlaceR F Lt (if sg then fig else fig.fmod 256) p → 0 ≤ p → Fr h₀ L h' m → News h₀ L h' news → Q (.ref (f p)) { s with heap := h', toks := tk' }) :
    wpAny (model PySem.Challenge.pw_pq0472_01 w) (ktrTop dp un gd cn cs L a ccd cl outer) (call (.ref 468) [.ref et, .ref ctx]) Q E s :=
  C w mean mg mb dp un gd cn cs a ccd cl outer A₀ base h₀ L m s Q E news et ei ctx dctx M D st dst S sig dsig oM oD es f esC esT esS nC nT nS nL W F Lt fig unk sg ta tb tc td k1 k2 k3 B Fm X N T hk m1 m2 f1 f2 hunk m3 m4 hC m5 hM loM m6 hD loD m7 m8 hT m9 hG w1 w2 hfill hd hu hx hy
end
theorem fill_of {W F Lt idx size : Int} {n : Nat} {es : List (Int × Value)} {ws : Array Value} {tail : Led} {f g : Int → Addr} {av : Int → Int} (H : MInv W n es ws tail f g av) (hn : (n : Int) = size) (h1 : F ≤ Lt → size = Lt - F + 1) (h2 : Lt < F → size = F - Lt + 1) : FillR F Lt idx es f :=
  fun p hp h0 => (H.at_ p h0 (by unfold PlaceR at hp; omega)).2.1
theorem ff_more {low size F Lt : Int} {bf : Bool} (s1 : 2 ≤ size) (h1 : bf = true → F = low + size - 1 ∧ Lt = low) (h2 : bf = false → F = low ∧ Lt = low + size - 1) :
    (F ≤ Lt → F = low ∧ Lt = low + size - 1) ∧ (Lt < F → Lt = low ∧ F = low + size - 1) := by
  cases bf with
  | true => obtain ⟨h, h'⟩ := h1 rfl; clear h1 h2; exact ⟨fun _ => ⟨by omega, by omega⟩, fun _ => ⟨h', h⟩⟩
  | false => obtain ⟨h, h'⟩ := h2 rfl; clear h1 h2; exact ⟨fun _ => ⟨h, h'⟩, fun _ => ⟨by omega, by omega⟩⟩
theorem jj_of {low size F Lt idx j : Int} {bf : Bool} (s1 : 2 ≤ size) (h1 : bf = true → F = low + size - 1 ∧ Lt = low) (h2 : bf = false → F = low ∧ Lt = low + size - 1) (a1 : low ≤ idx) (a2 : idx < low + size)
    (hj : j = if bf = true then low + size - 1 - idx else idx - low) : 0 ≤ j ∧ j < size ∧ ¬ PlaceR F Lt idx (-1) ∧ ∀ p, PlaceR F Lt idx p → 0 ≤ p → p = j := by
  cases bf with
  | true =>
    obtain ⟨h, h'⟩ := h1 rfl; clear h1 h2; rw [if_pos rfl] at hj; refine ⟨by omega, by omega, ?_, ?_⟩
    · rintro (⟨_, _, _, _⟩ | ⟨_, _, _, _⟩ | ⟨_, _, x⟩)
      · omega
      · omega
      · have y := x (by omega); omega
    · rintro p (⟨_, _, _, _⟩ | ⟨_, _, _, _⟩ | ⟨_, _, _⟩) h0 <;> omega
  | false =>
    obtain ⟨h, h'⟩ := h2 rfl; clear h1 h2; rw [if_neg (by decide)] at hj; refine ⟨by omega, by omega, ?_, ?_⟩
    · rintro (⟨_, _, _, _⟩ | ⟨_, _, _, _⟩ | ⟨_, x, _⟩)
      · omega
      · omega
      · have y := x (by omega); omega
    · rintro p (⟨_, _, _, _⟩ | ⟨_, _, _, _⟩ | ⟨_, _, _⟩) h0 <;> omega
theorem idx_low {low fig : Int} {sg : Bool} (l1 : -2 ≤ low) (l2 : low ≤ 2) (h1 : low ≤ fig) (h2 : fig ≤ 100) : low ≤ (if sg = true then fig else fig.fmod 256) := by
  have h3 := fmod_lo fig (n := 256) (by decide)
  split
  · exact h1
  · rw [Int.fmod_eq_emod_of_nonneg _ (by decide)] at h3 ⊢
    omega
theorem li_itemA {prog : Program} {w : World} {A : Around} {E : Value → Shared → Prop} {s : Shared} {h₀ : Heap} {L : Addr} {news : Led} {value slice : PySem.Expr} {l : Addr} {ws : Array Value} {n : Nat} {k : Int} {u : Tok} {v : Value} {Q : Value → Shared → Prop}
    (N : News h₀ L s.heap news) (hp : (l, listOf ws n) ∈ news) (h0 : 0 ≤ k) (hhi : k < 2 ^ 63) (hx : ws[k.toNat]? = some v) (h : Q v s)
    (hs : subscripted slice false (.ref l) (.int k u) = operate [.ref l, .int k u] (getItem (.ref l) (.int k u)) := by with_unfolding_all rfl) :
    wpAny (model prog w) A (subscriptTail value slice (.ref l) (.int k u)) Q E s :=
  have hl : s.heap.IsList l ws := ⟨_, (N _ hp).1, rfl, n, rfl⟩
  tail_any hl.typeIs slot_list_getitem.lookup (wpAny_getItem_list hl h0 hhi hx h) hs
theorem pw_hi {x r : Int} (h1 : x < 1 + r) (h2 : r < 6) : x ≤ 1000000 := by omega
theorem pw_k {k r : Int} {n : Nat} (h1 : k = 0 + (n : Int)) (h2 : n < (1 + r - 0).toNat) (h3 : r < 4) : k ≤ 1000000 := by omega
theorem pw_k0 {k : Int} {n : Nat} (h1 : k = 0 + (n : Int)) : 0 ≤ k := by omega
theorem nn_of {size : Int} (h : 2 ≤ size) : (((size - 1).toNat + 1 : Nat) : Int) = size := by omega
section
local macro_rules | `(tactic| o_head $H) => `(tactic| (have hK := $H; assumption))
theorem pre (h : OpenRow.Holds (OpenLaw.row PySem.Challenge.rw_pq0472_01)) : OpenRow.Holds (OpenLaw.row PySem.Challenge.rw_pq0472_01) := by
  k_head
end
local macro_rules | `(tactic| k_steps) => `(tactic| repeat' (first | (k_unfold; (try dsimp only)) | (k_end; wrow_close) | ((with_reducible refine tok_gen ?_); intro _) | ((with_reducible first | refine const_K ?_ | refine add_K ?_ | refine sub_K ?_); intro _ _) | ((with_reducible refine gens_K (by assumption) ?_); dsimp only) | walk1 | (dsimp only; walk1) | (leave1; walk_say "STEP leave1"; try dsimp only) | fail "no step"))
local macro_rules | `(tactic| k_room) => `(tactic| ktr_room)
local macro_rules | `(tactic| k_in) => `(tactic| ((try dsimp only); with_reducible (first | assumption | (refine in_fr (by assumption) (by assumption)))))
local macro_rules | `(tactic| k_mem) => `(tactic| ((fail_if_success (refine List.Mem.tail _ ?_)); assumption))
local macro_rules | `(tactic| k_all) => `(tactic| with_reducible assumption)
local macro_rules | `(tactic| kpa_ne) => `(tactic| exact ne_len (by assumption) (by assumption))
local macro_rules | `(tactic| walk_at "binaryOp LShift int int") => `(tactic| ((with_reducible refine lshift_int_small ?_ ?_ ?_ ?_); omega; omega; (first | exact abs_mask (by omega) | exact abs_and (by omega))))
local macro_rules | `(tactic| walk_at "call type:range") => `(tactic| (k_here; (with_reducible show wpAny _ _ (call _ [_]) _ _ _); (rename Fr _ _ _ _ => F'); (rename News _ _ _ _ => N'); (with_unfolding_all refine range1_rows F' N' ?_; intro _ _ _ _ _ _ _ _ _)))
local macro_rules | `(tactic| walk_at "pyIter ref") => `(tactic| (k_here; refine Halt.at ?_))
local macro_rules | `(tactic| walk_at "exec For Name Call cons nil") => `(tactic| (k_here; refine Halt.at ?_))
local macro_rules | `(tactic| walk_at "exec For Name Subscript cons nil") => `(tactic| (k_here; refine Halt.at ?_))
local macro_rules | `(tactic| walk_at "InvEndN") => `(tactic| (refine Halt.at ?_))
local macro_rules | `(tactic| walk_at "subscriptTail Name Constant ref int") => `(tactic| (k_here; (with_reducible show wpAny _ _ (subscriptTail _ _ (Value.ref _) (Value.int _ _)) _ _ _); k_dflt (refine item_tupleT (by exact News.isTup (by k_asm) (by k_mem)) (by decide) (by decide) (by rfl) (by rfl) ?_; k_whole)))
local macro_rules | `(tactic| k_get) => `(tactic| with_reducible assumption)
local macro_rules | `(tactic| kst_p) => `(tactic| ((try dsimp only); first | exact p0_turn (by assumption) (by assumption) (by assumption) | exact p1_in (by assumption) (by assumption) (by assumption) (by assumption) (by assumption) | exact p1_lo (by assumption) (by assumption) (by assumption) (by assumption) | exact p1_hi (by assumption) (by assumption) (by assumption) (by assumption)))
local macro_rules | `(tactic| walk_at "eval Call Attribute") => `(tactic| (k_here; (first | (with_reducible show wpAny _ _ (eval (Expr.Call (Expr.Attribute _ (Str.ofString "place") _) _ _ _) _) _ _ _) | (with_reducible show wpAny _ _ (eval (Expr.Call (Expr.Attribute _ (Str.ofString "words") _) _ _ _) _) _ _ _)); refine MethodCall_ ?_))
local macro_rules | `(tactic| walk_at "subscriptTail") => `(tactic| (k_here; (with_reducible show wpAny _ _ (subscriptTail _ _ (Value.ref _) (Value.int _ _)) _ _ _); k_dflt (refine kda_item (knd := PySem.intKind _ _) (by k_asm) (by k_mem) (by with_reducible assumption) (intKind_is _ _ _ _) (by exact rfl) ?_)))
local macro_rules | `(tactic| walk_at "subscriptTail") => `(tactic| (k_here; (with_reducible show wpAny _ _ (subscriptTail _ _ (Value.ref _) (Value.int _ _)) _ _ _); k_dflt (refine li_item (by k_asm) (by k_mem) (by first | decide | omega) (by first | decide | omega) (by first | exact rfl | assumption) ?_ (by with_unfolding_all rfl); k_whole)))
local macro_rules | `(tactic| walk_at "getMethod ref") => `(tactic| (k_here; (with_reducible show wpAny _ _ (getMethod (Value.ref _) (Str.ofString "get") _) _ _ _); k_dflt (refine kdg_method (knd := PySem.intKind _ _) (by k_asm) (by k_mem) (by with_reducible assumption) ?_)))
local macro_rules | `(tactic| walk_at "call builtin:dict.get") => `(tactic| (k_here; (with_reducible show wpAny _ _ (call (Value.builtin "dict.get") [Value.ref _, Value.int _ _]) _ _ _); k_dflt (first
  | refine kdg_get1 (knd := PySem.intKind _ _) (by k_asm) (by k_mem) (by with_reducible assumption) (by with_reducible assumption) (intKind_is _ _ _ _) (some _) (by first | exact rfl | assumption | exact FillR.at (by assumption) (by assumption) (by omega)) ?_
  | refine kdg_get1 (knd := PySem.intKind _ _) (by k_asm) (by k_mem) (by with_reducible assumption) (by with_reducible assumption) (intKind_is _ _ _ _) none (by first | exact rfl | assumption) ?_); (try dsimp only [Option.getD])))
local macro_rules | `(tactic| walk_at "compareOp NotIn int ref") => `(tactic| (k_here; k_dflt (first
  | refine kdg_notin (knd := PySem.intKind _ _) (by k_asm) (by k_mem) (by with_reducible assumption) (by with_reducible assumption) (intKind_is _ _ _ _) true (by exact rfl) ?_
  | refine kdg_notin (knd := PySem.intKind _ _) (by k_asm) (by k_mem) (by with_reducible assumption) (by with_reducible assumption) (intKind_is _ _ _ _) false (by exact rfl) ?_); (try dsimp only [Bool.not_true, Bool.not_false])))
local macro_rules | `(tactic| walk_at "getItem ref int") => `(tactic| (k_here; k_dflt (refine di_get (by k_asm) (by k_mem) (by with_reducible assumption) (intKind_is _ _ _ _) (by exact rfl) ?_)))
local macro_rules | `(tactic| walk_at "setItem ref int") => `(tactic| (k_here; k_dflt (refine kda_set (knd := PySem.intKind _ _) (by k_asm) (by k_asm) (by k_updF) (by with_reducible assumption) (intKind_is _ _ _ _) (by rw [sizeLine_eq]; first | exact Nat.le_of_ble_eq_true (by with_unfolding_all rfl) | exact Nat.le_trans (by assumption) (by decide)) ?_); intro h' o' F' N' hd'; (try dsimp only at N')))
local macro_rules | `(tactic| walk_at "eval Dict nil nil") => `(tactic| (k_here; (with_reducible rename DMark => hMkD1); k_dflt (refine newDict_K (by k_asm) (by k_asm) (TopRead.nolimit (by k_asm)) ?_; k_whole); intro d' h' o' F' N' l1 lo' hs' fs' hi' fi'; clear hs' fs' fi'; (try k_lt l1); (try k_sweep)))
local macro_rules | `(tactic| walk_at "binaryOp Pow int int") => `(tactic| (k_here; (with_reducible refine pow_int_small ?zkb1 ?zkb2 ?zkb3 ?_); (case zkb1 => first | with_reducible assumption | exact pw_k0 (by with_reducible assumption)); (case zkb2 => first | exact pw_hi (by with_reducible assumption) (by with_reducible assumption) | exact pw_k (by with_reducible assumption) (by with_reducible assumption) (by with_reducible assumption)); (case zkb3 => decide)))
local macro_rules | `(tactic| walk_at "UnrEnd") => `(tactic| (refine Halt.at ?_))
local macro_rules | `(tactic| walk_at "eval Name") => `(tactic| (k_here; (with_reducible rename MMark => hMk1); k_dflt (refine ld (by k_asm) (by first | exact rfl | assumption) ?_; k_whole)))
local macro_rules | `(tactic| walk_at "eval IfExp") => `(tactic| (k_here; (with_reducible show wpAny _ _ (eval (Expr.IfExp (Expr.Name (Str.ofString "falls") _) _ _ _) _) _ _ _); refine Halt.at ?_))
local macro_rules | `(tactic| walk_at "JoinI") => `(tactic| (refine Halt.at ?_))
local macro_rules | `(tactic| walk_at "call builtin:list.append") => `(tactic| (k_here; (with_reducible rename MInv _ _ _ _ _ _ _ _ => hJ1); (with_reducible show wpAny _ _ (call (Value.builtin _) [Value.ref _, _]) _ _ _); k_dflt (refine append_K (by k_asm) (by k_asm) (by k_upd) ?_ (by exact le_size (by have hq := hJ1.len; omega)); k_whole); intro h' F' N'; (try k_sweep)))
local macro_rules | `(tactic| walk_at "subscriptTail") => `(tactic| (k_here; (with_reducible rename MMark => hMk1); (with_reducible show wpAny _ _ (subscriptTail _ _ (Value.ref _) (Value.int _ _)) _ _ _); k_dflt (refine li_itemA (by k_asm) (by k_mem) (by omega) (by omega) (by with_reducible assumption) ?_ (by with_unfolding_all rfl); k_whole)))
local macro_rules | `(tactic| walk_at "call builtin:list.reverse") => `(tactic| (k_here; refine Halt.at ?_))
local macro_rules | `(tactic| walk_at "call ref") => `(tactic| (k_here; with_reducible refine Halt.cut (by decide) ?_))
theorem moldOk (Qp : Program) (lop : List Str) : MoldOk Mine.pre.heap_1 Qp lop := by
  unfold MoldOk
  intro w mean mg mb many t
  unfold ClayC
  intro dp un gd cn cs a ccd cl outer A₀ base h₀ L m s Q E c vs ns n news B F X N T hk hne hI hlen hpos hd hu hret
  have hGm : Halt True := trivial
  obtain ⟨zs1, zs2, zs3, zs4, zs5⟩ := s
  (try dsimp only at F N hret ⊢)
  refine wpAny_call ?_
  k_dflt cell_enter
  k_steps
  · exact hret _ _ _ _ _ _ ⟨0, _, rfl, Int.le_refl 0, hpos⟩ hI hlen (by assumption) (drop1 (by assumption))
  · exact hret _ _ _ _ _ _ ⟨_, _, rfl, fmod_lo _ hpos, fmod_hi _ hpos⟩ (by assumption) (by rw [List.length_dropLast]; omega) (by assumption) (drop1 (by assumption))
theorem maskOk (Qp : Program) (lop : List Str) : MaskOk Mine.pre.heap_1 Qp lop := by
  unfold MaskOk
  intro w mean mg mb x t
  unfold PureC
  intro dp un gd cn cs a ccd cl outer A₀ base h₀ L m s Q E news B F X N T hk hpre hd hu hret
  obtain ⟨hx0, hx8⟩ := hpre
  have hGm : Halt True := trivial
  obtain ⟨zs1, zs2, zs3, zs4, zs5⟩ := s
  (try dsimp only at F N hret ⊢)
  refine wpAny_call ?_
  k_dflt cell_enter
  k_steps
  exact hret _ _ _ ⟨_, by rw [Int.one_mul]⟩ (by k_asm) (by k_asm)
theorem allxOk (Qp : Program) (lop : List Str) : AllxOk Mine.pre.heap_1 Qp lop := by
  have hMask := maskOk Qp lop
  unfold AllxOk
  intro w mean mg mb x t
  unfold TupC
  intro dp un gd cn cs a ccd cl outer A₀ base h₀ L m s Q E news B F X N T hk hpre hd hu hret
  obtain ⟨hx0, hx8⟩ := hpre
  have hGm : Halt True := trivial
  obtain ⟨zs1, zs2, zs3, zs4, zs5⟩ := s
  (try dsimp only at F N hret ⊢)
  refine wpAny_call ?_
  k_dflt cell_enter
  (k_steps; repeat' (refine Halt.on ?_; first | ((with_reducible show wpAny _ _ (call (Value.ref 61) [Value.int _ _]) _ _ _); (with_reducible rename MaskOk _ _ _ => hC61); k_dflt (refine' PureC.use (hC61 _ _ _ _ _ _) ?zk1 ?zk2 ?zk3 ?zk4 ?zk5 ?zkK ?zkp ?zkd ?zku ?_; (case zk1 => k_asm); (case zk2 => k_asm); (case zk3 => k_asm); (case zk4 => k_asm); (case zk5 => k_asm); (case zkK => first | exact rfl | assumption); (case zkp => (refine ⟨?_, ?_⟩ <;> first | omega | decide)); (case zkd => ktr_room); (case zku => ktr_units); k_whole; intro v9 h9 tk9 hv9 F9 N9; obtain ⟨t9, e9⟩ := hv9; subst e9; (try dsimp only); (try k_sweep); (try k_fold)); all_goals k_steps)))
  exact hret _ _ _ _ ⟨_, _, _, rfl⟩ (by k_asm) (by k_asm) (by assumption)
theorem sliceOk (Qp : Program) (lop : List Str) : SliceOk Mine.pre.heap_1 Qp lop := by
  have hMask := maskOk Qp lop
  have hAllx := allxOk Qp lop
  unfold SliceOk
  intro w mean mg mb v wide A B lo take ta tb tc td te
  unfold TupC
  intro dp un gd cn cs a ccd cl outer A₀ base h₀ L m s Q E news Bl F X N T hk hpre hd hu hret
  obtain ⟨hv, hw1, hw6, ht1, ht4, hl1, hl2⟩ := hpre
  have hGm : Halt True := trivial
  obtain ⟨zs1, zs2, zs3, zs4, zs5⟩ := s
  (try dsimp only at F N hret ⊢)
  refine wpAny_call ?_
  k_dflt cell_enter
  (k_steps; repeat' (refine Halt.on ?_; first | ((with_reducible show wpAny _ _ (call (Value.ref 61) [Value.int _ _]) _ _ _); (with_reducible rename MaskOk _ _ _ => hC61); k_dflt (refine' PureC.use (hC61 _ _ _ _ _ _) ?zk1 ?zk2 ?zk3 ?zk4 ?zk5 ?zkK ?zkp ?zkd ?zku ?_; (case zk1 => k_asm); (case zk2 => k_asm); (case zk3 => k_asm); (case zk4 => k_asm); (case zk5 => k_asm); (case zkK => first | exact rfl | assumption); (case zkp => (refine ⟨?_, ?_⟩ <;> first | omega | decide)); (case zkd => ktr_room); (case zku => ktr_units); k_whole; intro v9 h9 tk9 hv9 F9 N9; obtain ⟨t9, e9⟩ := hv9; subst e9; (try dsimp only); (try k_sweep); (try k_fold)); all_goals k_steps) | ((with_reducible show wpAny _ _ (call (Value.ref 83) [Value.int _ _]) _ _ _); (with_reducible rename AllxOk _ _ _ => hC83); k_dflt (refine' TupC.use (hC83 _ _ _ _ _ _) ?zk1 ?zk2 ?zk3 ?zk4 ?zk5 ?zkK ?zkp ?zkd ?zku ?_; (case zk1 => k_asm); (case zk2 => k_asm); (case zk3 => k_asm); (case zk4 => k_asm); (case zk5 => k_asm); (case zkK => first | exact rfl | assumption); (case zkp => (refine ⟨?_, ?_⟩ <;> first | omega | decide)); (case zkd => ktr_room); (case zku => ktr_units); k_whole; intro x9 v9 h9 tk9 hv9 F9 N9 l9; obtain ⟨t9, u9, w9, e9⟩ := hv9; subst e9; (try k_lt l9); (try dsimp only); (try k_sweep); (try k_fold)); all_goals k_steps)))
  · exact hret _ _ _ _ ⟨_, _, _, by rw [sliceF_pos wide lo take (by assumption), sliceF_pos wide lo take (by assumption)]⟩ (by k_asm) (by k_asm) (by assumption)
  · exact hret _ [_, _, _] _ _ ⟨_, _, _, by rw [sliceF_neg wide lo take (by assumption), sliceF_neg wide lo take (by assumption)]⟩ (by k_asm) (by k_asm) (by assumption)
theorem wholeOk (Qp : Program) (lop : List Str) : WholeOk Mine.pre.heap_1 Qp lop := by
  unfold WholeOk
  intro w mean mg mb e ctx fig unk sg ta tb tc td
  unfold PureC
  intro dp un gd cn cs a ccd cl outer A₀ base h₀ L m s Q E news Bl F X N T hk hpre hd hu hret
  obtain ⟨hv, hf1, hf2, hunk⟩ := hpre
  have hGm : Halt True := trivial
  obtain ⟨zs1, zs2, zs3, zs4, zs5⟩ := s
  (try dsimp only at F N hret ⊢)
  refine wpAny_call ?_
  k_dflt cell_enter
  k_steps
  · exact hret _ _ _ (.inl ⟨by omega, rfl⟩) (by k_asm) (drop1 (drop1 (by assumption)))
  · exact hret _ _ _ (.inr ⟨by assumption, _, whole_v1 hf1 hf2 (by assumption) (by assumption)⟩) (by k_asm) (drop1 (drop1 (by assumption)))
  · exact hret _ _ _ (.inr ⟨by assumption, _, whole_v2 hf1 hf2 (by assumption) (by assumption)⟩) (by k_asm) (drop1 (drop1 (by assumption)))
  · exact hret _ _ _ (.inr ⟨by assumption, _, whole_v3 (by assumption)⟩) (by k_asm) (drop1 (drop1 (by assumption)))
theorem indexOk (Qp : Program) (lop : List Str) : IndexOk Mine.pre.heap_1 Qp lop := by
  have hMold := moldOk Qp lop
  unfold IndexOk
  intro w mean mg mb low span t1 t2
  unfold IdxC
  intro dp un gd cn cs a ccd cl outer A₀ base h₀ L m s Q E c vs ns n news B F X N T hk hne hI hlen hpre hd hu hret
  obtain ⟨hl1, hl2, hs1, hs2⟩ := hpre
  have hGm : Halt True := trivial
  obtain ⟨zs1, zs2, zs3, zs4, zs5⟩ := s
  (try dsimp only at F N hret ⊢)
  refine wpAny_call ?_
  k_dflt cell_enter
  (k_steps; repeat' (refine Halt.on ?_; first | ((with_reducible show wpAny _ _ (call (Value.ref 733) [Value.ref _, Value.int _ _]) _ _ _); (with_reducible rename MoldOk _ _ _ => hC733); k_dflt (refine' ClayC.use (hC733 _ _ _ _ _ _) ?zk1 ?zk2 ?zk3 ?zk4 ?zk5 ?zkK ?zkU ?zkI ?zkl ?zkp ?zkd ?zku ?_; (case zk1 => k_asm); (case zk2 => k_asm); (case zk3 => k_asm); (case zk4 => k_asm); (case zk5 => k_asm); (case zkK => first | exact rfl | assumption); (case zkU => k_updF); (case zkI => with_reducible assumption); (case zkl => first | assumption | omega); (case zkp => first | decide | omega | exact kbt_pos _); (case zkd => ktr_room); (case zku => ktr_units); k_whole; intro v9 h9 tk9 vs9 ns9 n9 hv9 hI9 hl9 F9 N9; obtain ⟨r9, t9, e9, hr0, hr1⟩ := hv9; subst e9; (try dsimp only at N9); (try dsimp only); (try k_sweep); (try k_fold)); all_goals k_steps)))
  all_goals (
    refine' hret _ _ _ _ _ _ _ _ _ _ _ _ _ _ _ ?zh1 ?zh2 ?zhV ?zhI ?zhl ?zhF ?zhN ?zhlt ?zhT
    (case zhN => assumption); (case zhF => assumption); (case zhlt => exact idx_lt (by assumption)); (case zhT => refine ltN ?_; omega); (case zhI => assumption); (case zhl => assumption); (case zh1 => omega); (case zh2 => omega)
    (case zhV => first | exact idx_v0 | exact idx_v1 (by assumption) | exact idx_v2 (by assumption)))
theorem partOk (Qp : Program) (lop : List Str) : PartOk Mine.pre.heap_1 Qp lop := by
  have hMask := maskOk Qp lop
  have hAllx := allxOk Qp lop
  have hMold := moldOk Qp lop
  have hSlice := sliceOk Qp lop
  have hWhole := wholeOk Qp lop
  have hIndex := indexOk Qp lop
  unfold PartOk
  intro w mean mg mb
  unfold ClayC
  intro dp un gd cn cs a ccd cl outer A₀ base h₀ L m s Q E c vs ns n news B F X N T hk hne hI hlen hpre hd hu hret
  have hGm : Halt True := trivial
  obtain ⟨zs1, zs2, zs3, zs4, zs5⟩ := s
  (try dsimp only at F N hret ⊢)
  refine wpAny_call ?_
  k_dflt cell_enter
  (k_steps; repeat' (refine Halt.on ?_; first | ((with_reducible show wpAny _ _ (call (Value.ref 61) [Value.int _ _]) _ _ _); (with_reducible rename MaskOk _ _ _ => hC61); k_dflt (refine' PureC.use (hC61 _ _ _ _ _ _) ?zk1 ?zk2 ?zk3 ?zk4 ?zk5 ?zkK ?zkp ?zkd ?zku ?_; (case zk1 => k_asm); (case zk2 => k_asm); (case zk3 => k_asm); (case zk4 => k_asm); (case zk5 => k_asm); (case zkK => first | exact rfl | assumption); (case zkp => (refine ⟨?_, ?_⟩ <;> first | omega | decide)); (case zkd => ktr_room); (case zku => ktr_units); k_whole; intro v9 h9 tk9 hv9 F9 N9; obtain ⟨t9, e9⟩ := hv9; subst e9; (try dsimp only); (try k_sweep); (try k_fold)); all_goals k_steps) | ((with_reducible show wpAny _ _ (call (Value.ref 83) [Value.int _ _]) _ _ _); (with_reducible rename AllxOk _ _ _ => hC83); k_dflt (refine' TupC.use (hC83 _ _ _ _ _ _) ?zk1 ?zk2 ?zk3 ?zk4 ?zk5 ?zkK ?zkp ?zkd ?zku ?_; (case zk1 => k_asm); (case zk2 => k_asm); (case zk3 => k_asm); (case zk4 => k_asm); (case zk5 => k_asm); (case zkK => first | exact rfl | assumption); (case zkp => (refine ⟨?_, ?_⟩ <;> first | omega | decide)); (case zkd => ktr_room); (case zku => ktr_units); k_whole; intro x9 v9 h9 tk9 hv9 F9 N9 l9; obtain ⟨t9, u9, w9, e9⟩ := hv9; subst e9; (try k_lt l9); (try dsimp only); (try k_sweep); (try k_fold)); all_goals k_steps) | ((with_reducible show wpAny _ _ (call (Value.ref 733) [Value.ref _, Value.int _ _]) _ _ _); (with_reducible rename MoldOk _ _ _ => hC733); k_dflt (refine' ClayC.use (hC733 _ _ _ _ _ _) ?zk1 ?zk2 ?zk3 ?zk4 ?zk5 ?zkK ?zkU ?zkI ?zkl ?zkp ?zkd ?zku ?_; (case zk1 => k_asm); (case zk2 => k_asm); (case zk3 => k_asm); (case zk4 => k_asm); (case zk5 => k_asm); (case zkK => first | exact rfl | assumption); (case zkU => k_updF); (case zkI => with_reducible assumption); (case zkl => first | assumption | omega); (case zkp => first | decide | omega | exact kbt_pos _); (case zkd => ktr_room); (case zku => ktr_units); k_whole; intro v9 h9 tk9 vs9 ns9 n9 hv9 hI9 hl9 F9 N9; obtain ⟨r9, t9, e9, hr0, hr1⟩ := hv9; subst e9; (try dsimp only at N9); (try dsimp only); (try k_sweep); (try k_fold)); all_goals k_steps) | ((with_reducible show wpAny _ _ (call (Value.ref 125) [Value.ref _, Value.int _ _, Value.int _ _]) _ _ _); (with_reducible rename SliceOk _ _ _ => hC125); k_dflt (refine' TupC.use (hC125 _ _ _ _ _ _ _ _ _ _ _ _ _ _ _) ?zk1 ?zk2 ?zk3 ?zk4 ?zk5 ?zkK ?zkp ?zkd ?zku ?_; (case zk1 => k_asm); (case zk2 => k_asm); (case zk3 => k_asm); (case zk4 => k_asm); (case zk5 => k_asm); (case zkK => first | exact rfl | assumption); (case zkp => (refine ⟨?zkm, ?_, ?_, ?_, ?_, ?_, ?_⟩; (case zkm => k_mem); all_goals (first | omega | decide))); (case zkd => ktr_room); (case zku => ktr_units); k_whole; intro x9 v9 h9 tk9 hv9 F9 N9 l9; obtain ⟨t9, u9, w9, e9⟩ := hv9; subst e9; (try k_lt l9); (try dsimp only); (try k_sweep); (try k_fold)); all_goals k_steps) | ((with_reducible show wpAny _ _ (call (Value.ref 461) [Value.ref _, Value.bool _, Value.ref _]) _ _ _); (with_reducible rename WholeOk _ _ _ => hC461); k_dflt (refine' PureC.use (hC461 _ _ _ _ _ _ _ _ _ _ _ _ _) ?zk1 ?zk2 ?zk3 ?zk4 ?zk5 ?zkK ?zkp ?zkd ?zku ?_; (case zk1 => k_asm); (case zk2 => k_asm); (case zk3 => k_asm); (case zk4 => k_asm); (case zk5 => k_asm); (case zkK => first | exact rfl | assumption); (case zkp => (refine ⟨?zkm, ?_, ?_, ?_⟩; (case zkm => k_mem); all_goals (first | omega | decide | assumption))); (case zkd => ktr_room); (case zku => ktr_units); k_whole; intro v9 h9 tk9 hv9 F9 N9; first | ((have e9 := idx_none hv9 (by assumption)); subst e9; clear hv9) | ((have e9 := idx_some hv9 (by assumption)); clear hv9; obtain ⟨t9, e9⟩ := e9; subst e9) | (obtain ⟨hu9, e9⟩ | ⟨hu9, t9, e9⟩ := hv9; all_goals subst e9); (try dsimp only); (try k_sweep); (try k_fold)); all_goals k_steps) | ((with_reducible show wpAny _ _ (call (Value.ref 740) [Value.ref _, Value.int _ _, Value.int _ _]) _ _ _); (with_reducible rename IndexOk _ _ _ => hC740); k_dflt (refine' IdxC.use (hC740 _ _ _ _ _ _ _ _) ?zk1 ?zk2 ?zk3 ?zk4 ?zk5 ?zkK ?zkU ?zkI ?zkl ?zkp ?zkd ?zku ?_; (case zk1 => k_asm); (case zk2 => k_asm); (case zk3 => k_asm); (case zk4 => k_asm); (case zk5 => k_asm); (case zkK => first | exact rfl | assumption); (case zkU => k_updF); (case zkI => with_reducible assumption); (case zkl => first | assumption | omega); (case zkp => (refine ⟨?_, ?_, ?_, ?_⟩; all_goals (first | omega | decide))); (case zkd => ktr_room); (case zku => ktr_units); k_whole; intro T9 e9 fig9 unk9 sg9 v9 ta9 tb9 tc9 td9 h9 tk9 vs9 ns9 n9 hf1 hf2 hV9 hI9 hl9 F9 N9 l9 l9b; (try k_lt l9); (try k_lt2 l9b); (try dsimp only at N9); (try dsimp only); (try k_sweep); (try k_fold)); all_goals k_steps)))
  (with_reducible rename idxV _ _ _ _ => hV)
  (rename _ < (6 : Int) => hW1); obtain ⟨rw, eq⟩ : ∃ x, x = lhsOf hW1 := ⟨_, rfl⟩; (dsimp only [lhsOf] at eq); subst eq
  (rename _ < (2 : Int) ^ (1 + rw).toNat => hB1); obtain ⟨rB, eq⟩ : ∃ x, x = lhsOf hB1 := ⟨_, rfl⟩; (dsimp only [lhsOf] at eq); subst eq
  have hB2 := Hid.mk hB1; clear hB1
  (rename _ < (2 : Int) ^ (1 + rw).toNat => hA1); obtain ⟨rA, eq⟩ : ∃ x, x = lhsOf hA1 := ⟨_, rfl⟩; (dsimp only [lhsOf] at eq); subst eq
  (rename _ < (5 : Int) => hb1); obtain ⟨rb, eq⟩ : ∃ x, x = lhsOf hb1 := ⟨_, rfl⟩; (dsimp only [lhsOf] at eq); subst eq
  (rename _ < (2 : Int) => hs1); obtain ⟨rs, eq⟩ : ∃ x, x = lhsOf hs1 := ⟨_, rfl⟩; (dsimp only [lhsOf] at eq); subst eq
  (rename _ < (4 : Int) => ht1); obtain ⟨rt, eq⟩ : ∃ x, x = lhsOf ht1 := ⟨_, rfl⟩; (dsimp only [lhsOf] at eq); subst eq
  (rename _ < rb - 1 - 3 + 8 + 2 => hf2); obtain ⟨fig, eq⟩ : ∃ x, x = lhsOf hf2 := ⟨_, rfl⟩; (dsimp only [lhsOf] at eq); subst eq
  obtain ⟨sg, eq⟩ : ∃ x, x = sgOf hV := ⟨_, rfl⟩; (dsimp only [sgOf] at eq); subst eq
  obtain ⟨hu0, e8⟩ | ⟨hu0, t8, e8⟩ := hV
  all_goals subst e8
  all_goals (k_steps; repeat' (refine Halt.on ?_; first | ((with_reducible show wpAny _ _ (call (Value.ref 61) [Value.int _ _]) _ _ _); (with_reducible rename MaskOk _ _ _ => hC61); k_dflt (refine' PureC.use (hC61 _ _ _ _ _ _) ?zk1 ?zk2 ?zk3 ?zk4 ?zk5 ?zkK ?zkp ?zkd ?zku ?_; (case zk1 => k_asm); (case zk2 => k_asm); (case zk3 => k_asm); (case zk4 => k_asm); (case zk5 => k_asm); (case zkK => first | exact rfl | assumption); (case zkp => (refine ⟨?_, ?_⟩ <;> first | omega | decide)); (case zkd => ktr_room); (case zku => ktr_units); k_whole; intro v9 h9 tk9 hv9 F9 N9; obtain ⟨t9, e9⟩ := hv9; subst e9; (try dsimp only); (try k_sweep); (try k_fold)); all_goals k_steps) | ((with_reducible show wpAny _ _ (call (Value.ref 83) [Value.int _ _]) _ _ _); (with_reducible rename AllxOk _ _ _ => hC83); k_dflt (refine' TupC.use (hC83 _ _ _ _ _ _) ?zk1 ?zk2 ?zk3 ?zk4 ?zk5 ?zkK ?zkp ?zkd ?zku ?_; (case zk1 => k_asm); (case zk2 => k_asm); (case zk3 => k_asm); (case zk4 => k_asm); (case zk5 => k_asm); (case zkK => first | exact rfl | assumption); (case zkp => (refine ⟨?_, ?_⟩ <;> first | omega | decide)); (case zkd => ktr_room); (case zku => ktr_units); k_whole; intro x9 v9 h9 tk9 hv9 F9 N9 l9; obtain ⟨t9, u9, w9, e9⟩ := hv9; subst e9; (try k_lt l9); (try dsimp only); (try k_sweep); (try k_fold)); all_goals k_steps) | ((with_reducible show wpAny _ _ (call (Value.ref 733) [Value.ref _, Value.int _ _]) _ _ _); (with_reducible rename MoldOk _ _ _ => hC733); k_dflt (refine' ClayC.use (hC733 _ _ _ _ _ _) ?zk1 ?zk2 ?zk3 ?zk4 ?zk5 ?zkK ?zkU ?zkI ?zkl ?zkp ?zkd ?zku ?_; (case zk1 => k_asm); (case zk2 => k_asm); (case zk3 => k_asm); (case zk4 => k_asm); (case zk5 => k_asm); (case zkK => first | exact rfl | assumption); (case zkU => k_updF); (case zkI => with_reducible assumption); (case zkl => first | assumption | omega); (case zkp => first | decide | omega | exact kbt_pos _); (case zkd => ktr_room); (case zku => ktr_units); k_whole; intro v9 h9 tk9 vs9 ns9 n9 hv9 hI9 hl9 F9 N9; obtain ⟨r9, t9, e9, hr0, hr1⟩ := hv9; subst e9; (try dsimp only at N9); (try dsimp only); (try k_sweep); (try k_fold)); all_goals k_steps) | ((with_reducible show wpAny _ _ (call (Value.ref 125) [Value.ref _, Value.int _ _, Value.int _ _]) _ _ _); (with_reducible rename SliceOk _ _ _ => hC125); k_dflt (refine' TupC.use (hC125 _ _ _ _ _ _ _ _ _ _ _ _ _ _ _) ?zk1 ?zk2 ?zk3 ?zk4 ?zk5 ?zkK ?zkp ?zkd ?zku ?_; (case zk1 => k_asm); (case zk2 => k_asm); (case zk3 => k_asm); (case zk4 => k_asm); (case zk5 => k_asm); (case zkK => first | exact rfl | assumption); (case zkp => (refine ⟨?zkm, ?_, ?_, ?_, ?_, ?_, ?_⟩; (case zkm => k_mem); all_goals (first | omega | decide))); (case zkd => ktr_room); (case zku => ktr_units); k_whole; intro x9 v9 h9 tk9 hv9 F9 N9 l9; obtain ⟨t9, u9, w9, e9⟩ := hv9; subst e9; (try k_lt l9); (try dsimp only); (try k_sweep); (try k_fold)); all_goals k_steps) | ((with_reducible show wpAny _ _ (call (Value.ref 461) [Value.ref _, Value.bool _, Value.ref _]) _ _ _); (with_reducible rename WholeOk _ _ _ => hC461); k_dflt (refine' PureC.use (hC461 _ _ _ _ _ _ _ _ _ _ _ _ _) ?zk1 ?zk2 ?zk3 ?zk4 ?zk5 ?zkK ?zkp ?zkd ?zku ?_; (case zk1 => k_asm); (case zk2 => k_asm); (case zk3 => k_asm); (case zk4 => k_asm); (case zk5 => k_asm); (case zkK => first | exact rfl | assumption); (case zkp => (refine ⟨?zkm, ?_, ?_, ?_⟩; (case zkm => k_mem); all_goals (first | omega | decide | assumption))); (case zkd => ktr_room); (case zku => ktr_units); k_whole; intro v9 h9 tk9 hv9 F9 N9; first | ((have e9 := idx_none hv9 (by assumption)); subst e9; clear hv9) | ((have e9 := idx_some hv9 (by assumption)); clear hv9; obtain ⟨t9, e9⟩ := e9; subst e9) | (obtain ⟨hu9, e9⟩ | ⟨hu9, t9, e9⟩ := hv9; all_goals subst e9); (try dsimp only); (try k_sweep); (try k_fold)); all_goals k_steps) | ((with_reducible show wpAny _ _ (call (Value.ref 740) [Value.ref _, Value.int _ _, Value.int _ _]) _ _ _); (with_reducible rename IndexOk _ _ _ => hC740); k_dflt (refine' IdxC.use (hC740 _ _ _ _ _ _ _ _) ?zk1 ?zk2 ?zk3 ?zk4 ?zk5 ?zkK ?zkU ?zkI ?zkl ?zkp ?zkd ?zku ?_; (case zk1 => k_asm); (case zk2 => k_asm); (case zk3 => k_asm); (case zk4 => k_asm); (case zk5 => k_asm); (case zkK => first | exact rfl | assumption); (case zkU => k_updF); (case zkI => with_reducible assumption); (case zkl => first | assumption | omega); (case zkp => (refine ⟨?_, ?_, ?_, ?_⟩; all_goals (first | omega | decide))); (case zkd => ktr_room); (case zku => ktr_units); k_whole; intro T9 e9 fig9 unk9 sg9 v9 ta9 tb9 tc9 td9 h9 tk9 vs9 ns9 n9 hf1 hf2 hV9 hI9 hl9 F9 N9 l9 l9b; (try k_lt l9); (try k_lt2 l9b); (try dsimp only at N9); (try dsimp only); (try k_sweep); (try k_fold)); all_goals k_steps)))
  · refine Halt.on ?_
    (rename Fr _ _ _ _ => lF'); (with_unfolding_all refine' For_invVF lF' ?zk1 ?zk2 ?_; (case zk1 => exact rfl); (case zk2 => exact rfl))
    (k_steps; repeat' (refine Halt.on ?_; first | ((with_reducible show wpAny _ _ (call (Value.ref 61) [Value.int _ _]) _ _ _); (with_reducible rename MaskOk _ _ _ => hC61); k_dflt (refine' PureC.use (hC61 _ _ _ _ _ _) ?zk1 ?zk2 ?zk3 ?zk4 ?zk5 ?zkK ?zkp ?zkd ?zku ?_; (case zk1 => k_asm); (case zk2 => k_asm); (case zk3 => k_asm); (case zk4 => k_asm); (case zk5 => k_asm); (case zkK => first | exact rfl | assumption); (case zkp => (refine ⟨?_, ?_⟩ <;> first | omega | decide)); (case zkd => ktr_room); (case zku => ktr_units); k_whole; intro v9 h9 tk9 hv9 F9 N9; obtain ⟨t9, e9⟩ := hv9; subst e9; (try dsimp only); (try k_sweep); (try k_fold)); all_goals k_steps) | ((with_reducible show wpAny _ _ (call (Value.ref 83) [Value.int _ _]) _ _ _); (with_reducible rename AllxOk _ _ _ => hC83); k_dflt (refine' TupC.use (hC83 _ _ _ _ _ _) ?zk1 ?zk2 ?zk3 ?zk4 ?zk5 ?zkK ?zkp ?zkd ?zku ?_; (case zk1 => k_asm); (case zk2 => k_asm); (case zk3 => k_asm); (case zk4 => k_asm); (case zk5 => k_asm); (case zkK => first | exact rfl | assumption); (case zkp => (refine ⟨?_, ?_⟩ <;> first | omega | decide)); (case zkd => ktr_room); (case zku => ktr_units); k_whole; intro x9 v9 h9 tk9 hv9 F9 N9 l9; obtain ⟨t9, u9, w9, e9⟩ := hv9; subst e9; (try k_lt l9); (try dsimp only); (try k_sweep); (try k_fold)); all_goals k_steps) | ((with_reducible show wpAny _ _ (call (Value.ref 733) [Value.ref _, Value.int _ _]) _ _ _); (with_reducible rename MoldOk _ _ _ => hC733); k_dflt (refine' ClayC.use (hC733 _ _ _ _ _ _) ?zk1 ?zk2 ?zk3 ?zk4 ?zk5 ?zkK ?zkU ?zkI ?zkl ?zkp ?zkd ?zku ?_; (case zk1 => k_asm); (case zk2 => k_asm); (case zk3 => k_asm); (case zk4 => k_asm); (case zk5 => k_asm); (case zkK => first | exact rfl | assumption); (case zkU => k_updF); (case zkI => with_reducible assumption); (case zkl => first | assumption | omega); (case zkp => first | decide | omega | exact kbt_pos _); (case zkd => ktr_room); (case zku => ktr_units); k_whole; intro v9 h9 tk9 vs9 ns9 n9 hv9 hI9 hl9 F9 N9; obtain ⟨r9, t9, e9, hr0, hr1⟩ := hv9; subst e9; (try dsimp only at N9); (try dsimp only); (try k_sweep); (try k_fold)); all_goals k_steps) | ((with_reducible show wpAny _ _ (call (Value.ref 125) [Value.ref _, Value.int _ _, Value.int _ _]) _ _ _); (with_reducible rename SliceOk _ _ _ => hC125); k_dflt (refine' TupC.use (hC125 _ _ _ _ _ _ _ _ _ _ _ _ _ _ _) ?zk1 ?zk2 ?zk3 ?zk4 ?zk5 ?zkK ?zkp ?zkd ?zku ?_; (case zk1 => k_asm); (case zk2 => k_asm); (case zk3 => k_asm); (case zk4 => k_asm); (case zk5 => k_asm); (case zkK => first | exact rfl | assumption); (case zkp => (refine ⟨?zkm, ?_, ?_, ?_, ?_, ?_, ?_⟩; (case zkm => k_mem); all_goals (first | omega | decide))); (case zkd => ktr_room); (case zku => ktr_units); k_whole; intro x9 v9 h9 tk9 hv9 F9 N9 l9; obtain ⟨t9, u9, w9, e9⟩ := hv9; subst e9; (try k_lt l9); (try dsimp only); (try k_sweep); (try k_fold)); all_goals k_steps) | ((with_reducible show wpAny _ _ (call (Value.ref 461) [Value.ref _, Value.bool _, Value.ref _]) _ _ _); (with_reducible rename WholeOk _ _ _ => hC461); k_dflt (refine' PureC.use (hC461 _ _ _ _ _ _ _ _ _ _ _ _ _) ?zk1 ?zk2 ?zk3 ?zk4 ?zk5 ?zkK ?zkp ?zkd ?zku ?_; (case zk1 => k_asm); (case zk2 => k_asm); (case zk3 => k_asm); (case zk4 => k_asm); (case zk5 => k_asm); (case zkK => first | exact rfl | assumption); (case zkp => (refine ⟨?zkm, ?_, ?_, ?_⟩; (case zkm => k_mem); all_goals (first | omega | decide | assumption))); (case zkd => ktr_room); (case zku => ktr_units); k_whole; intro v9 h9 tk9 hv9 F9 N9; first | ((have e9 := idx_none hv9 (by assumption)); subst e9; clear hv9) | ((have e9 := idx_some hv9 (by assumption)); clear hv9; obtain ⟨t9, e9⟩ := e9; subst e9) | (obtain ⟨hu9, e9⟩ | ⟨hu9, t9, e9⟩ := hv9; all_goals subst e9); (try dsimp only); (try k_sweep); (try k_fold)); all_goals k_steps) | ((with_reducible show wpAny _ _ (call (Value.ref 740) [Value.ref _, Value.int _ _, Value.int _ _]) _ _ _); (with_reducible rename IndexOk _ _ _ => hC740); k_dflt (refine' IdxC.use (hC740 _ _ _ _ _ _ _ _) ?zk1 ?zk2 ?zk3 ?zk4 ?zk5 ?zkK ?zkU ?zkI ?zkl ?zkp ?zkd ?zku ?_; (case zk1 => k_asm); (case zk2 => k_asm); (case zk3 => k_asm); (case zk4 => k_asm); (case zk5 => k_asm); (case zkK => first | exact rfl | assumption); (case zkU => k_updF); (case zkI => with_reducible assumption); (case zkl => first | assumption | omega); (case zkp => (refine ⟨?_, ?_, ?_, ?_⟩; all_goals (first | omega | decide))); (case zkd => ktr_room); (case zku => ktr_units); k_whole; intro T9 e9 fig9 unk9 sg9 v9 ta9 tb9 tc9 td9 h9 tk9 vs9 ns9 n9 hf1 hf2 hV9 hI9 hl9 F9 N9 l9 l9b; (try k_lt l9); (try k_lt2 l9b); (try dsimp only at N9); (try dsimp only); (try k_sweep); (try k_fold)); all_goals k_steps)))
    refine Halt.on ?_
    k_state (fun (pre : List Int) (a b : Int) => a = 2 ^ pre.length - 1 ∧ b = 2 ^ pre.length - 1) "a" "b"
    · (k_steps; repeat' (refine Halt.on ?_; first | ((with_reducible show wpAny _ _ (call (Value.ref 61) [Value.int _ _]) _ _ _); (with_reducible rename MaskOk _ _ _ => hC61); k_dflt (refine' PureC.use (hC61 _ _ _ _ _ _) ?zk1 ?zk2 ?zk3 ?zk4 ?zk5 ?zkK ?zkp ?zkd ?zku ?_; (case zk1 => k_asm); (case zk2 => k_asm); (case zk3 => k_asm); (case zk4 => k_asm); (case zk5 => k_asm); (case zkK => first | exact rfl | assumption); (case zkp => (refine ⟨?_, ?_⟩ <;> first | omega | decide)); (case zkd => ktr_room); (case zku => ktr_units); k_whole; intro v9 h9 tk9 hv9 F9 N9; obtain ⟨t9, e9⟩ := hv9; subst e9; (try dsimp only); (try k_sweep); (try k_fold)); all_goals k_steps) | ((with_reducible show wpAny _ _ (call (Value.ref 83) [Value.int _ _]) _ _ _); (with_reducible rename AllxOk _ _ _ => hC83); k_dflt (refine' TupC.use (hC83 _ _ _ _ _ _) ?zk1 ?zk2 ?zk3 ?zk4 ?zk5 ?zkK ?zkp ?zkd ?zku ?_; (case zk1 => k_asm); (case zk2 => k_asm); (case zk3 => k_asm); (case zk4 => k_asm); (case zk5 => k_asm); (case zkK => first | exact rfl | assumption); (case zkp => (refine ⟨?_, ?_⟩ <;> first | omega | decide)); (case zkd => ktr_room); (case zku => ktr_units); k_whole; intro x9 v9 h9 tk9 hv9 F9 N9 l9; obtain ⟨t9, u9, w9, e9⟩ := hv9; subst e9; (try k_lt l9); (try dsimp only); (try k_sweep); (try k_fold)); all_goals k_steps) | ((with_reducible show wpAny _ _ (call (Value.ref 733) [Value.ref _, Value.int _ _]) _ _ _); (with_reducible rename MoldOk _ _ _ => hC733); k_dflt (refine' ClayC.use (hC733 _ _ _ _ _ _) ?zk1 ?zk2 ?zk3 ?zk4 ?zk5 ?zkK ?zkU ?zkI ?zkl ?zkp ?zkd ?zku ?_; (case zk1 => k_asm); (case zk2 => k_asm); (case zk3 => k_asm); (case zk4 => k_asm); (case zk5 => k_asm); (case zkK => first | exact rfl | assumption); (case zkU => k_updF); (case zkI => with_reducible assumption); (case zkl => first | assumption | omega); (case zkp => first | decide | omega | exact kbt_pos _); (case zkd => ktr_room); (case zku => ktr_units); k_whole; intro v9 h9 tk9 vs9 ns9 n9 hv9 hI9 hl9 F9 N9; obtain ⟨r9, t9, e9, hr0, hr1⟩ := hv9; subst e9; (try dsimp only at N9); (try dsimp only); (try k_sweep); (try k_fold)); all_goals k_steps) | ((with_reducible show wpAny _ _ (call (Value.ref 125) [Value.ref _, Value.int _ _, Value.int _ _]) _ _ _); (with_reducible rename SliceOk _ _ _ => hC125); k_dflt (refine' TupC.use (hC125 _ _ _ _ _ _ _ _ _ _ _ _ _ _ _) ?zk1 ?zk2 ?zk3 ?zk4 ?zk5 ?zkK ?zkp ?zkd ?zku ?_; (case zk1 => k_asm); (case zk2 => k_asm); (case zk3 => k_asm); (case zk4 => k_asm); (case zk5 => k_asm); (case zkK => first | exact rfl | assumption); (case zkp => (refine ⟨?zkm, ?_, ?_, ?_, ?_, ?_, ?_⟩; (case zkm => k_mem); all_goals (first | omega | decide))); (case zkd => ktr_room); (case zku => ktr_units); k_whole; intro x9 v9 h9 tk9 hv9 F9 N9 l9; obtain ⟨t9, u9, w9, e9⟩ := hv9; subst e9; (try k_lt l9); (try dsimp only); (try k_sweep); (try k_fold)); all_goals k_steps) | ((with_reducible show wpAny _ _ (call (Value.ref 461) [Value.ref _, Value.bool _, Value.ref _]) _ _ _); (with_reducible rename WholeOk _ _ _ => hC461); k_dflt (refine' PureC.use (hC461 _ _ _ _ _ _ _ _ _ _ _ _ _) ?zk1 ?zk2 ?zk3 ?zk4 ?zk5 ?zkK ?zkp ?zkd ?zku ?_; (case zk1 => k_asm); (case zk2 => k_asm); (case zk3 => k_asm); (case zk4 => k_asm); (case zk5 => k_asm); (case zkK => first | exact rfl | assumption); (case zkp => (refine ⟨?zkm, ?_, ?_, ?_⟩; (case zkm => k_mem); all_goals (first | omega | decide | assumption))); (case zkd => ktr_room); (case zku => ktr_units); k_whole; intro v9 h9 tk9 hv9 F9 N9; first | ((have e9 := idx_none hv9 (by assumption)); subst e9; clear hv9) | ((have e9 := idx_some hv9 (by assumption)); clear hv9; obtain ⟨t9, e9⟩ := e9; subst e9) | (obtain ⟨hu9, e9⟩ | ⟨hu9, t9, e9⟩ := hv9; all_goals subst e9); (try dsimp only); (try k_sweep); (try k_fold)); all_goals k_steps) | ((with_reducible show wpAny _ _ (call (Value.ref 740) [Value.ref _, Value.int _ _, Value.int _ _]) _ _ _); (with_reducible rename IndexOk _ _ _ => hC740); k_dflt (refine' IdxC.use (hC740 _ _ _ _ _ _ _ _) ?zk1 ?zk2 ?zk3 ?zk4 ?zk5 ?zkK ?zkU ?zkI ?zkl ?zkp ?zkd ?zku ?_; (case zk1 => k_asm); (case zk2 => k_asm); (case zk3 => k_asm); (case zk4 => k_asm); (case zk5 => k_asm); (case zkK => first | exact rfl | assumption); (case zkU => k_updF); (case zkI => with_reducible assumption); (case zkl => first | assumption | omega); (case zkp => (refine ⟨?_, ?_, ?_, ?_⟩; all_goals (first | omega | decide))); (case zkd => ktr_room); (case zku => ktr_units); k_whole; intro T9 e9 fig9 unk9 sg9 v9 ta9 tb9 tc9 td9 h9 tk9 vs9 ns9 n9 hf1 hf2 hV9 hI9 hl9 F9 N9 l9 l9b; (try k_lt l9); (try k_lt2 l9b); (try dsimp only at N9); (try dsimp only); (try k_sweep); (try k_fold)); all_goals k_steps)))
      refine Halt.on ?_
      (rename News _ _ _ _ => nE')
      refine' kst_end (⟨_, _, _, _⟩) ?zeF nE' ?zea ?zeb ?zec ?zed ?zee ?zef ?zeg
      (case zeF => k_asm)
      (case zea => (try dsimp only); (iterate 12 (refine subC (by k_mem) ?_)); exact fun p hp => by repeat (first | exact List.mem_append.mpr (.inl hp) | refine List.Mem.tail _ ?_))
      (case zeb => intro p hp; kst_mem)
      (case zec => rfl)
      (case zed => kst_facts)
      (case zee => kst_all)
      (case zef => kst_same)
      (case zeg => (try dsimp only); exact p0_turn (by with_reducible assumption) (by with_reducible assumption) (by with_reducible assumption))
    · (k_steps; repeat' (refine Halt.on ?_; first | ((with_reducible show wpAny _ _ (call (Value.ref 61) [Value.int _ _]) _ _ _); (with_reducible rename MaskOk _ _ _ => hC61); k_dflt (refine' PureC.use (hC61 _ _ _ _ _ _) ?zk1 ?zk2 ?zk3 ?zk4 ?zk5 ?zkK ?zkp ?zkd ?zku ?_; (case zk1 => k_asm); (case zk2 => k_asm); (case zk3 => k_asm); (case zk4 => k_asm); (case zk5 => k_asm); (case zkK => first | exact rfl | assumption); (case zkp => (refine ⟨?_, ?_⟩ <;> first | omega | decide)); (case zkd => ktr_room); (case zku => ktr_units); k_whole; intro v9 h9 tk9 hv9 F9 N9; obtain ⟨t9, e9⟩ := hv9; subst e9; (try dsimp only); (try k_sweep); (try k_fold)); all_goals k_steps) | ((with_reducible show wpAny _ _ (call (Value.ref 83) [Value.int _ _]) _ _ _); (with_reducible rename AllxOk _ _ _ => hC83); k_dflt (refine' TupC.use (hC83 _ _ _ _ _ _) ?zk1 ?zk2 ?zk3 ?zk4 ?zk5 ?zkK ?zkp ?zkd ?zku ?_; (case zk1 => k_asm); (case zk2 => k_asm); (case zk3 => k_asm); (case zk4 => k_asm); (case zk5 => k_asm); (case zkK => first | exact rfl | assumption); (case zkp => (refine ⟨?_, ?_⟩ <;> first | omega | decide)); (case zkd => ktr_room); (case zku => ktr_units); k_whole; intro x9 v9 h9 tk9 hv9 F9 N9 l9; obtain ⟨t9, u9, w9, e9⟩ := hv9; subst e9; (try k_lt l9); (try dsimp only); (try k_sweep); (try k_fold)); all_goals k_steps) | ((with_reducible show wpAny _ _ (call (Value.ref 733) [Value.ref _, Value.int _ _]) _ _ _); (with_reducible rename MoldOk _ _ _ => hC733); k_dflt (refine' ClayC.use (hC733 _ _ _ _ _ _) ?zk1 ?zk2 ?zk3 ?zk4 ?zk5 ?zkK ?zkU ?zkI ?zkl ?zkp ?zkd ?zku ?_; (case zk1 => k_asm); (case zk2 => k_asm); (case zk3 => k_asm); (case zk4 => k_asm); (case zk5 => k_asm); (case zkK => first | exact rfl | assumption); (case zkU => k_updF); (case zkI => with_reducible assumption); (case zkl => first | assumption | omega); (case zkp => first | decide | omega | exact kbt_pos _); (case zkd => ktr_room); (case zku => ktr_units); k_whole; intro v9 h9 tk9 vs9 ns9 n9 hv9 hI9 hl9 F9 N9; obtain ⟨r9, t9, e9, hr0, hr1⟩ := hv9; subst e9; (try dsimp only at N9); (try dsimp only); (try k_sweep); (try k_fold)); all_goals k_steps) | ((with_reducible show wpAny _ _ (call (Value.ref 125) [Value.ref _, Value.int _ _, Value.int _ _]) _ _ _); (with_reducible rename SliceOk _ _ _ => hC125); k_dflt (refine' TupC.use (hC125 _ _ _ _ _ _ _ _ _ _ _ _ _ _ _) ?zk1 ?zk2 ?zk3 ?zk4 ?zk5 ?zkK ?zkp ?zkd ?zku ?_; (case zk1 => k_asm); (case zk2 => k_asm); (case zk3 => k_asm); (case zk4 => k_asm); (case zk5 => k_asm); (case zkK => first | exact rfl | assumption); (case zkp => (refine ⟨?zkm, ?_, ?_, ?_, ?_, ?_, ?_⟩; (case zkm => k_mem); all_goals (first | omega | decide))); (case zkd => ktr_room); (case zku => ktr_units); k_whole; intro x9 v9 h9 tk9 hv9 F9 N9 l9; obtain ⟨t9, u9, w9, e9⟩ := hv9; subst e9; (try k_lt l9); (try dsimp only); (try k_sweep); (try k_fold)); all_goals k_steps) | ((with_reducible show wpAny _ _ (call (Value.ref 461) [Value.ref _, Value.bool _, Value.ref _]) _ _ _); (with_reducible rename WholeOk _ _ _ => hC461); k_dflt (refine' PureC.use (hC461 _ _ _ _ _ _ _ _ _ _ _ _ _) ?zk1 ?zk2 ?zk3 ?zk4 ?zk5 ?zkK ?zkp ?zkd ?zku ?_; (case zk1 => k_asm); (case zk2 => k_asm); (case zk3 => k_asm); (case zk4 => k_asm); (case zk5 => k_asm); (case zkK => first | exact rfl | assumption); (case zkp => (refine ⟨?zkm, ?_, ?_, ?_⟩; (case zkm => k_mem); all_goals (first | omega | decide | assumption))); (case zkd => ktr_room); (case zku => ktr_units); k_whole; intro v9 h9 tk9 hv9 F9 N9; first | ((have e9 := idx_none hv9 (by assumption)); subst e9; clear hv9) | ((have e9 := idx_some hv9 (by assumption)); clear hv9; obtain ⟨t9, e9⟩ := e9; subst e9) | (obtain ⟨hu9, e9⟩ | ⟨hu9, t9, e9⟩ := hv9; all_goals subst e9); (try dsimp only); (try k_sweep); (try k_fold)); all_goals k_steps) | ((with_reducible show wpAny _ _ (call (Value.ref 740) [Value.ref _, Value.int _ _, Value.int _ _]) _ _ _); (with_reducible rename IndexOk _ _ _ => hC740); k_dflt (refine' IdxC.use (hC740 _ _ _ _ _ _ _ _) ?zk1 ?zk2 ?zk3 ?zk4 ?zk5 ?zkK ?zkU ?zkI ?zkl ?zkp ?zkd ?zku ?_; (case zk1 => k_asm); (case zk2 => k_asm); (case zk3 => k_asm); (case zk4 => k_asm); (case zk5 => k_asm); (case zkK => first | exact rfl | assumption); (case zkU => k_updF); (case zkI => with_reducible assumption); (case zkl => first | assumption | omega); (case zkp => (refine ⟨?_, ?_, ?_, ?_⟩; all_goals (first | omega | decide))); (case zkd => ktr_room); (case zku => ktr_units); k_whole; intro T9 e9 fig9 unk9 sg9 v9 ta9 tb9 tc9 td9 h9 tk9 vs9 ns9 n9 hf1 hf2 hV9 hI9 hl9 F9 N9 l9 l9b; (try k_lt l9); (try k_lt2 l9b); (try dsimp only at N9); (try dsimp only); (try k_sweep); (try k_fold)); all_goals k_steps)))
      · refine' hret _ _ _ _ _ _ ?zhR ?zhI ?zhl ?zhF ?zhN
        (case zhN => (refine dropTo (by assumption) (fun p hp => ?_); repeat (first | exact hp | refine List.Mem.tail _ ?_)))
        (case zhR => rw [beq_self_eq_true])
        (case zhI => assumption); (case zhl => assumption); (case zhF => assumption)
      · (rename (_ && _) = false => hz); exfalso; exact p0_end (by assumption) (by assumption) (by assumption) hz
  · (rename rb - 1 - 3 ≤ fig => hf1)
    have hLO := lo_bounds (sg := sg) (by assumption) hb1 (by assumption) hs1 hf1 hf2
    obtain ⟨hLO1, hLO2⟩ := hLO
    refine Halt.on ?_
    (rename Fr _ _ _ _ => lF'); (with_unfolding_all refine' For_invVF lF' ?zk1 ?zk2 ?_; (case zk1 => exact rfl); (case zk2 => exact rfl))
    (k_steps; repeat' (refine Halt.on ?_; first | ((with_reducible show wpAny _ _ (call (Value.ref 61) [Value.int _ _]) _ _ _); (with_reducible rename MaskOk _ _ _ => hC61); k_dflt (refine' PureC.use (hC61 _ _ _ _ _ _) ?zk1 ?zk2 ?zk3 ?zk4 ?zk5 ?zkK ?zkp ?zkd ?zku ?_; (case zk1 => k_asm); (case zk2 => k_asm); (case zk3 => k_asm); (case zk4 => k_asm); (case zk5 => k_asm); (case zkK => first | exact rfl | assumption); (case zkp => (refine ⟨?_, ?_⟩ <;> first | omega | decide)); (case zkd => ktr_room); (case zku => ktr_units); k_whole; intro v9 h9 tk9 hv9 F9 N9; obtain ⟨t9, e9⟩ := hv9; subst e9; (try dsimp only); (try k_sweep); (try k_fold)); all_goals k_steps) | ((with_reducible show wpAny _ _ (call (Value.ref 83) [Value.int _ _]) _ _ _); (with_reducible rename AllxOk _ _ _ => hC83); k_dflt (refine' TupC.use (hC83 _ _ _ _ _ _) ?zk1 ?zk2 ?zk3 ?zk4 ?zk5 ?zkK ?zkp ?zkd ?zku ?_; (case zk1 => k_asm); (case zk2 => k_asm); (case zk3 => k_asm); (case zk4 => k_asm); (case zk5 => k_asm); (case zkK => first | exact rfl | assumption); (case zkp => (refine ⟨?_, ?_⟩ <;> first | omega | decide)); (case zkd => ktr_room); (case zku => ktr_units); k_whole; intro x9 v9 h9 tk9 hv9 F9 N9 l9; obtain ⟨t9, u9, w9, e9⟩ := hv9; subst e9; (try k_lt l9); (try dsimp only); (try k_sweep); (try k_fold)); all_goals k_steps) | ((with_reducible show wpAny _ _ (call (Value.ref 733) [Value.ref _, Value.int _ _]) _ _ _); (with_reducible rename MoldOk _ _ _ => hC733); k_dflt (refine' ClayC.use (hC733 _ _ _ _ _ _) ?zk1 ?zk2 ?zk3 ?zk4 ?zk5 ?zkK ?zkU ?zkI ?zkl ?zkp ?zkd ?zku ?_; (case zk1 => k_asm); (case zk2 => k_asm); (case zk3 => k_asm); (case zk4 => k_asm); (case zk5 => k_asm); (case zkK => first | exact rfl | assumption); (case zkU => k_updF); (case zkI => with_reducible assumption); (case zkl => first | assumption | omega); (case zkp => first | decide | omega | exact kbt_pos _); (case zkd => ktr_room); (case zku => ktr_units); k_whole; intro v9 h9 tk9 vs9 ns9 n9 hv9 hI9 hl9 F9 N9; obtain ⟨r9, t9, e9, hr0, hr1⟩ := hv9; subst e9; (try dsimp only at N9); (try dsimp only); (try k_sweep); (try k_fold)); all_goals k_steps) | ((with_reducible show wpAny _ _ (call (Value.ref 125) [Value.ref _, Value.int _ _, Value.int _ _]) _ _ _); (with_reducible rename SliceOk _ _ _ => hC125); k_dflt (refine' TupC.use (hC125 _ _ _ _ _ _ _ _ _ _ _ _ _ _ _) ?zk1 ?zk2 ?zk3 ?zk4 ?zk5 ?zkK ?zkp ?zkd ?zku ?_; (case zk1 => k_asm); (case zk2 => k_asm); (case zk3 => k_asm); (case zk4 => k_asm); (case zk5 => k_asm); (case zkK => first | exact rfl | assumption); (case zkp => (refine ⟨?zkm, ?_, ?_, ?_, ?_, ?_, ?_⟩; (case zkm => k_mem); all_goals (first | omega | decide))); (case zkd => ktr_room); (case zku => ktr_units); k_whole; intro x9 v9 h9 tk9 hv9 F9 N9 l9; obtain ⟨t9, u9, w9, e9⟩ := hv9; subst e9; (try k_lt l9); (try dsimp only); (try k_sweep); (try k_fold)); all_goals k_steps) | ((with_reducible show wpAny _ _ (call (Value.ref 461) [Value.ref _, Value.bool _, Value.ref _]) _ _ _); (with_reducible rename WholeOk _ _ _ => hC461); k_dflt (refine' PureC.use (hC461 _ _ _ _ _ _ _ _ _ _ _ _ _) ?zk1 ?zk2 ?zk3 ?zk4 ?zk5 ?zkK ?zkp ?zkd ?zku ?_; (case zk1 => k_asm); (case zk2 => k_asm); (case zk3 => k_asm); (case zk4 => k_asm); (case zk5 => k_asm); (case zkK => first | exact rfl | assumption); (case zkp => (refine ⟨?zkm, ?_, ?_, ?_⟩; (case zkm => k_mem); all_goals (first | omega | decide | assumption))); (case zkd => ktr_room); (case zku => ktr_units); k_whole; intro v9 h9 tk9 hv9 F9 N9; first | ((have e9 := idx_none hv9 (by assumption)); subst e9; clear hv9) | ((have e9 := idx_some hv9 (by assumption)); clear hv9; obtain ⟨t9, e9⟩ := e9; subst e9) | (obtain ⟨hu9, e9⟩ | ⟨hu9, t9, e9⟩ := hv9; all_goals subst e9); (try dsimp only); (try k_sweep); (try k_fold)); all_goals k_steps) | ((with_reducible show wpAny _ _ (call (Value.ref 740) [Value.ref _, Value.int _ _, Value.int _ _]) _ _ _); (with_reducible rename IndexOk _ _ _ => hC740); k_dflt (refine' IdxC.use (hC740 _ _ _ _ _ _ _ _) ?zk1 ?zk2 ?zk3 ?zk4 ?zk5 ?zkK ?zkU ?zkI ?zkl ?zkp ?zkd ?zku ?_; (case zk1 => k_asm); (case zk2 => k_asm); (case zk3 => k_asm); (case zk4 => k_asm); (case zk5 => k_asm); (case zkK => first | exact rfl | assumption); (case zkU => k_updF); (case zkI => with_reducible assumption); (case zkl => first | assumption | omega); (case zkp => (refine ⟨?_, ?_, ?_, ?_⟩; all_goals (first | omega | decide))); (case zkd => ktr_room); (case zku => ktr_units); k_whole; intro T9 e9 fig9 unk9 sg9 v9 ta9 tb9 tc9 td9 h9 tk9 vs9 ns9 n9 hf1 hf2 hV9 hI9 hl9 F9 N9 l9 l9b; (try k_lt l9); (try k_lt2 l9b); (try dsimp only at N9); (try dsimp only); (try k_sweep); (try k_fold)); all_goals k_steps)))
    refine Halt.on ?_
    k_state_given ["low", "wide"] (fun (LO W : Int) (pre : List Int) (a b : Int) => a = sumF W LO rA pre.length ∧ b = sumF W LO rB pre.length) "a" "b"
    · (k_steps; repeat' (refine Halt.on ?_; first | ((with_reducible show wpAny _ _ (call (Value.ref 61) [Value.int _ _]) _ _ _); (with_reducible rename MaskOk _ _ _ => hC61); k_dflt (refine' PureC.use (hC61 _ _ _ _ _ _) ?zk1 ?zk2 ?zk3 ?zk4 ?zk5 ?zkK ?zkp ?zkd ?zku ?_; (case zk1 => k_asm); (case zk2 => k_asm); (case zk3 => k_asm); (case zk4 => k_asm); (case zk5 => k_asm); (case zkK => first | exact rfl | assumption); (case zkp => (refine ⟨?_, ?_⟩ <;> first | omega | decide)); (case zkd => ktr_room); (case zku => ktr_units); k_whole; intro v9 h9 tk9 hv9 F9 N9; obtain ⟨t9, e9⟩ := hv9; subst e9; (try dsimp only); (try k_sweep); (try k_fold)); all_goals k_steps) | ((with_reducible show wpAny _ _ (call (Value.ref 83) [Value.int _ _]) _ _ _); (with_reducible rename AllxOk _ _ _ => hC83); k_dflt (refine' TupC.use (hC83 _ _ _ _ _ _) ?zk1 ?zk2 ?zk3 ?zk4 ?zk5 ?zkK ?zkp ?zkd ?zku ?_; (case zk1 => k_asm); (case zk2 => k_asm); (case zk3 => k_asm); (case zk4 => k_asm); (case zk5 => k_asm); (case zkK => first | exact rfl | assumption); (case zkp => (refine ⟨?_, ?_⟩ <;> first | omega | decide)); (case zkd => ktr_room); (case zku => ktr_units); k_whole; intro x9 v9 h9 tk9 hv9 F9 N9 l9; obtain ⟨t9, u9, w9, e9⟩ := hv9; subst e9; (try k_lt l9); (try dsimp only); (try k_sweep); (try k_fold)); all_goals k_steps) | ((with_reducible show wpAny _ _ (call (Value.ref 733) [Value.ref _, Value.int _ _]) _ _ _); (with_reducible rename MoldOk _ _ _ => hC733); k_dflt (refine' ClayC.use (hC733 _ _ _ _ _ _) ?zk1 ?zk2 ?zk3 ?zk4 ?zk5 ?zkK ?zkU ?zkI ?zkl ?zkp ?zkd ?zku ?_; (case zk1 => k_asm); (case zk2 => k_asm); (case zk3 => k_asm); (case zk4 => k_asm); (case zk5 => k_asm); (case zkK => first | exact rfl | assumption); (case zkU => k_updF); (case zkI => with_reducible assumption); (case zkl => first | assumption | omega); (case zkp => first | decide | omega | exact kbt_pos _); (case zkd => ktr_room); (case zku => ktr_units); k_whole; intro v9 h9 tk9 vs9 ns9 n9 hv9 hI9 hl9 F9 N9; obtain ⟨r9, t9, e9, hr0, hr1⟩ := hv9; subst e9; (try dsimp only at N9); (try dsimp only); (try k_sweep); (try k_fold)); all_goals k_steps) | ((with_reducible show wpAny _ _ (call (Value.ref 125) [Value.ref _, Value.int _ _, Value.int _ _]) _ _ _); (with_reducible rename SliceOk _ _ _ => hC125); k_dflt (refine' TupC.use (hC125 _ _ _ _ _ _ _ _ _ _ _ _ _ _ _) ?zk1 ?zk2 ?zk3 ?zk4 ?zk5 ?zkK ?zkp ?zkd ?zku ?_; (case zk1 => k_asm); (case zk2 => k_asm); (case zk3 => k_asm); (case zk4 => k_asm); (case zk5 => k_asm); (case zkK => first | exact rfl | assumption); (case zkp => (refine ⟨?zkm, ?_, ?_, ?_, ?_, ?_, ?_⟩; (case zkm => k_mem); all_goals (first | omega | decide))); (case zkd => ktr_room); (case zku => ktr_units); k_whole; intro x9 v9 h9 tk9 hv9 F9 N9 l9; obtain ⟨t9, u9, w9, e9⟩ := hv9; subst e9; (try k_lt l9); (try dsimp only); (try k_sweep); (try k_fold)); all_goals k_steps) | ((with_reducible show wpAny _ _ (call (Value.ref 461) [Value.ref _, Value.bool _, Value.ref _]) _ _ _); (with_reducible rename WholeOk _ _ _ => hC461); k_dflt (refine' PureC.use (hC461 _ _ _ _ _ _ _ _ _ _ _ _ _) ?zk1 ?zk2 ?zk3 ?zk4 ?zk5 ?zkK ?zkp ?zkd ?zku ?_; (case zk1 => k_asm); (case zk2 => k_asm); (case zk3 => k_asm); (case zk4 => k_asm); (case zk5 => k_asm); (case zkK => first | exact rfl | assumption); (case zkp => (refine ⟨?zkm, ?_, ?_, ?_⟩; (case zkm => k_mem); all_goals (first | omega | decide | assumption))); (case zkd => ktr_room); (case zku => ktr_units); k_whole; intro v9 h9 tk9 hv9 F9 N9; first | ((have e9 := idx_none hv9 (by assumption)); subst e9; clear hv9) | ((have e9 := idx_some hv9 (by assumption)); clear hv9; obtain ⟨t9, e9⟩ := e9; subst e9) | (obtain ⟨hu9, e9⟩ | ⟨hu9, t9, e9⟩ := hv9; all_goals subst e9); (try dsimp only); (try k_sweep); (try k_fold)); all_goals k_steps) | ((with_reducible show wpAny _ _ (call (Value.ref 740) [Value.ref _, Value.int _ _, Value.int _ _]) _ _ _); (with_reducible rename IndexOk _ _ _ => hC740); k_dflt (refine' IdxC.use (hC740 _ _ _ _ _ _ _ _) ?zk1 ?zk2 ?zk3 ?zk4 ?zk5 ?zkK ?zkU ?zkI ?zkl ?zkp ?zkd ?zku ?_; (case zk1 => k_asm); (case zk2 => k_asm); (case zk3 => k_asm); (case zk4 => k_asm); (case zk5 => k_asm); (case zkK => first | exact rfl | assumption); (case zkU => k_updF); (case zkI => with_reducible assumption); (case zkl => first | assumption | omega); (case zkp => (refine ⟨?_, ?_, ?_, ?_⟩; all_goals (first | omega | decide))); (case zkd => ktr_room); (case zku => ktr_units); k_whole; intro T9 e9 fig9 unk9 sg9 v9 ta9 tb9 tc9 td9 h9 tk9 vs9 ns9 n9 hf1 hf2 hV9 hI9 hl9 F9 N9 l9 l9b; (try k_lt l9); (try k_lt2 l9b); (try dsimp only at N9); (try dsimp only); (try k_sweep); (try k_fold)); all_goals k_steps)))
      all_goals (
        refine Halt.on ?_
        (rename News _ _ _ _ => nE')
        refine' kst_end (⟨_, _, _, _⟩) ?zeF nE' ?zea ?zeb ?zec ?zed ?zee ?zef ?zeg
        (case zeF => k_asm)
        (case zea => (try dsimp only); (iterate 12 (refine subC (by k_mem) ?_)); exact fun p hp => by repeat (first | exact List.mem_append.mpr (.inl hp) | refine List.Mem.tail _ ?_))
        (case zeb => intro p hp; kst_mem)
        (case zec => rfl)
        (case zed => kst_facts)
        (case zee => kst_all)
        (case zef => kst_same)
        (case zeg => (try dsimp only); first | exact p1_in (by with_reducible assumption) (by with_reducible assumption) (by with_reducible assumption) (by with_reducible assumption) (by with_reducible assumption) | exact p1_lo (by with_reducible assumption) (by with_reducible assumption) (by with_reducible assumption) (by with_reducible assumption) | exact p1_hi (by with_reducible assumption) (by with_reducible assumption) (by with_reducible assumption) (by with_reducible assumption)))
    · (k_steps; repeat' (refine Halt.on ?_; first | ((with_reducible show wpAny _ _ (call (Value.ref 61) [Value.int _ _]) _ _ _); (with_reducible rename MaskOk _ _ _ => hC61); k_dflt (refine' PureC.use (hC61 _ _ _ _ _ _) ?zk1 ?zk2 ?zk3 ?zk4 ?zk5 ?zkK ?zkp ?zkd ?zku ?_; (case zk1 => k_asm); (case zk2 => k_asm); (case zk3 => k_asm); (case zk4 => k_asm); (case zk5 => k_asm); (case zkK => first | exact rfl | assumption); (case zkp => (refine ⟨?_, ?_⟩ <;> first | omega | decide)); (case zkd => ktr_room); (case zku => ktr_units); k_whole; intro v9 h9 tk9 hv9 F9 N9; obtain ⟨t9, e9⟩ := hv9; subst e9; (try dsimp only); (try k_sweep); (try k_fold)); all_goals k_steps) | ((with_reducible show wpAny _ _ (call (Value.ref 83) [Value.int _ _]) _ _ _); (with_reducible rename AllxOk _ _ _ => hC83); k_dflt (refine' TupC.use (hC83 _ _ _ _ _ _) ?zk1 ?zk2 ?zk3 ?zk4 ?zk5 ?zkK ?zkp ?zkd ?zku ?_; (case zk1 => k_asm); (case zk2 => k_asm); (case zk3 => k_asm); (case zk4 => k_asm); (case zk5 => k_asm); (case zkK => first | exact rfl | assumption); (case zkp => (refine ⟨?_, ?_⟩ <;> first | omega | decide)); (case zkd => ktr_room); (case zku => ktr_units); k_whole; intro x9 v9 h9 tk9 hv9 F9 N9 l9; obtain ⟨t9, u9, w9, e9⟩ := hv9; subst e9; (try k_lt l9); (try dsimp only); (try k_sweep); (try k_fold)); all_goals k_steps) | ((with_reducible show wpAny _ _ (call (Value.ref 733) [Value.ref _, Value.int _ _]) _ _ _); (with_reducible rename MoldOk _ _ _ => hC733); k_dflt (refine' ClayC.use (hC733 _ _ _ _ _ _) ?zk1 ?zk2 ?zk3 ?zk4 ?zk5 ?zkK ?zkU ?zkI ?zkl ?zkp ?zkd ?zku ?_; (case zk1 => k_asm); (case zk2 => k_asm); (case zk3 => k_asm); (case zk4 => k_asm); (case zk5 => k_asm); (case zkK => first | exact rfl | assumption); (case zkU => k_updF); (case zkI => with_reducible assumption); (case zkl => first | assumption | omega); (case zkp => first | decide | omega | exact kbt_pos _); (case zkd => ktr_room); (case zku => ktr_units); k_whole; intro v9 h9 tk9 vs9 ns9 n9 hv9 hI9 hl9 F9 N9; obtain ⟨r9, t9, e9, hr0, hr1⟩ := hv9; subst e9; (try dsimp only at N9); (try dsimp only); (try k_sweep); (try k_fold)); all_goals k_steps) | ((with_reducible show wpAny _ _ (call (Value.ref 125) [Value.ref _, Value.int _ _, Value.int _ _]) _ _ _); (with_reducible rename SliceOk _ _ _ => hC125); k_dflt (refine' TupC.use (hC125 _ _ _ _ _ _ _ _ _ _ _ _ _ _ _) ?zk1 ?zk2 ?zk3 ?zk4 ?zk5 ?zkK ?zkp ?zkd ?zku ?_; (case zk1 => k_asm); (case zk2 => k_asm); (case zk3 => k_asm); (case zk4 => k_asm); (case zk5 => k_asm); (case zkK => first | exact rfl | assumption); (case zkp => (refine ⟨?zkm, ?_, ?_, ?_, ?_, ?_, ?_⟩; (case zkm => k_mem); all_goals (first | omega | decide))); (case zkd => ktr_room); (case zku => ktr_units); k_whole; intro x9 v9 h9 tk9 hv9 F9 N9 l9; obtain ⟨t9, u9, w9, e9⟩ := hv9; subst e9; (try k_lt l9); (try dsimp only); (try k_sweep); (try k_fold)); all_goals k_steps) | ((with_reducible show wpAny _ _ (call (Value.ref 461) [Value.ref _, Value.bool _, Value.ref _]) _ _ _); (with_reducible rename WholeOk _ _ _ => hC461); k_dflt (refine' PureC.use (hC461 _ _ _ _ _ _ _ _ _ _ _ _ _) ?zk1 ?zk2 ?zk3 ?zk4 ?zk5 ?zkK ?zkp ?zkd ?zku ?_; (case zk1 => k_asm); (case zk2 => k_asm); (case zk3 => k_asm); (case zk4 => k_asm); (case zk5 => k_asm); (case zkK => first | exact rfl | assumption); (case zkp => (refine ⟨?zkm, ?_, ?_, ?_⟩; (case zkm => k_mem); all_goals (first | omega | decide | assumption))); (case zkd => ktr_room); (case zku => ktr_units); k_whole; intro v9 h9 tk9 hv9 F9 N9; first | ((have e9 := idx_none hv9 (by assumption)); subst e9; clear hv9) | ((have e9 := idx_some hv9 (by assumption)); clear hv9; obtain ⟨t9, e9⟩ := e9; subst e9) | (obtain ⟨hu9, e9⟩ | ⟨hu9, t9, e9⟩ := hv9; all_goals subst e9); (try dsimp only); (try k_sweep); (try k_fold)); all_goals k_steps) | ((with_reducible show wpAny _ _ (call (Value.ref 740) [Value.ref _, Value.int _ _, Value.int _ _]) _ _ _); (with_reducible rename IndexOk _ _ _ => hC740); k_dflt (refine' IdxC.use (hC740 _ _ _ _ _ _ _ _) ?zk1 ?zk2 ?zk3 ?zk4 ?zk5 ?zkK ?zkU ?zkI ?zkl ?zkp ?zkd ?zku ?_; (case zk1 => k_asm); (case zk2 => k_asm); (case zk3 => k_asm); (case zk4 => k_asm); (case zk5 => k_asm); (case zkK => first | exact rfl | assumption); (case zkU => k_updF); (case zkI => with_reducible assumption); (case zkl => first | assumption | omega); (case zkp => (refine ⟨?_, ?_, ?_, ?_⟩; all_goals (first | omega | decide))); (case zkd => ktr_room); (case zku => ktr_units); k_whole; intro T9 e9 fig9 unk9 sg9 v9 ta9 tb9 tc9 td9 h9 tk9 vs9 ns9 n9 hf1 hf2 hV9 hI9 hl9 F9 N9 l9 l9b; (try k_lt l9); (try k_lt2 l9b); (try dsimp only at N9); (try dsimp only); (try k_sweep); (try k_fold)); all_goals k_steps)))
      · refine' hret _ _ _ _ _ _ ?zhR ?zhI ?zhl ?zhF ?zhN
        (case zhN => (refine dropTo (by assumption) (fun p hp => ?_); repeat (first | exact hp | refine List.Mem.tail _ ?_)))
        (case zhR => rw [beq_self_eq_true])
        (case zhI => assumption); (case zhl => assumption); (case zhF => assumption)
      · (rename (_ : Int) ≠ _ => hz); exact absurd rfl hz
      · (rename (_ && _) = false => hz); exfalso; exact p1_end hz (by assumption) (by assumption) (by assumption) (by assumption) (by assumption) (by assumption) (by assumption) (by assumption) (by assumption) (by assumption)
theorem wordsOk (Qp : Program) (lop : List Str) : WordsOk Mine.pre.heap_1 Qp lop := by
  unfold WordsOk
  intro w mean mg mb sig dsig es n W F Lt
  unfold PureC
  intro dp un gd cn cs a ccd cl outer A₀ base h₀ L m s Q E news Bl Fm X N T hk hpre hd hu hret
  obtain ⟨hm1, hm2, hS, hF1, hF2, hL1, hL2⟩ := hpre
  obtain ⟨⟨tw, eW⟩, ⟨tk, eK⟩, ⟨tf, eF⟩, ⟨tl, eL⟩, eM1, eM2, eM3⟩ := hS
  have hGm : Halt True := trivial
  obtain ⟨zs1, zs2, zs3, zs4, zs5⟩ := s
  (try dsimp only at Fm N hret ⊢)
  refine wpAny_call ?_
  k_dflt cell_enter
  k_steps
  exact hret _ _ _ ⟨_, _, rfl, by constructor <;> intro h <;> split <;> omega⟩ (by k_asm) (by k_asm)
theorem placeOk (Qp : Program) (lop : List Str) : PlaceOk Mine.pre.heap_1 Qp lop := by
  have hWords := wordsOk Qp lop
  unfold PlaceOk
  intro w mean mg mb sig dsig es n W F Lt idx t
  unfold PureC
  intro dp un gd cn cs a ccd cl outer A₀ base h₀ L m s Q E news Bl Fm X N T hk hpre hd hu hret
  obtain ⟨⟨hm1, hm2, hS, hF1, hF2, hL1, hL2⟩, hi1, hi2⟩ := hpre
  have hS2 := hS
  obtain ⟨⟨tw, eW⟩, ⟨tk, eK⟩, ⟨tf, eF⟩, ⟨tl, eL⟩, eM1, eM2, eM3⟩ := hS2
  have hGm : Halt True := trivial
  obtain ⟨zs1, zs2, zs3, zs4, zs5⟩ := s
  (try dsimp only at Fm N hret ⊢)
  refine wpAny_call ?_
  k_dflt cell_enter
  (k_steps; repeat' (refine Halt.on ?_; first | ((with_reducible show wpAny _ _ (call (Value.ref 550) [Value.ref _]) _ _ _); (with_reducible rename WordsOk _ _ _ => hC550); k_dflt (refine' PureC.use (hC550 _ _ _ _ _ _ _ _ _ _ _) ?zk1 ?zk2 ?zk3 ?zk4 ?zk5 ?zkK ?zkp ?zkd ?zku ?_; (case zk1 => k_asm); (case zk2 => k_asm); (case zk3 => k_asm); (case zk4 => k_asm); (case zk5 => k_asm); (case zkK => first | exact rfl | assumption); (case zkp => (refine ⟨?zkm, ?zkn, ?zks, ?_, ?_, ?_, ?_⟩; (case zkm => k_mem); (case zkn => k_mem); (case zks => first | assumption | fail); all_goals (first | omega | assumption))); (case zkd => ktr_room); (case zku => ktr_units); k_whole; intro v9 h9 tk9 hv9 F9 N9; obtain ⟨k9, t9, e9, hw91, hw92⟩ := hv9; subst e9; (try dsimp only); (try k_sweep); (try k_fold)); all_goals k_steps)))
  all_goals (refine hret _ _ _ ⟨_, _, rfl, ?_⟩ (by k_asm) (by k_asm); unfold PlaceR; (first | omega | (split at * <;> omega)))
theorem putOk (Qp : Program) (lop : List Str) : PutOk Mine.pre.heap_1 Qp lop := by
  have hMask := maskOk Qp lop
  unfold PutOk
  intro w mean mg mb o v W val t0 t1 t2 t3 t4 t5 t6
  unfold TupC
  intro dp un gd cn cs a ccd cl outer A₀ base h₀ L m s Q E news Bl Fm X N T hk hpre hd hu hret
  obtain ⟨hm1, hm2, hW1, hW2, hv1, hv2⟩ := hpre
  have hGm : Halt True := trivial
  obtain ⟨zs1, zs2, zs3, zs4, zs5⟩ := s
  (try dsimp only at Fm N hret ⊢)
  refine wpAny_call ?_
  k_dflt cell_enter
  (k_steps; repeat' (refine Halt.on ?_; first | ((with_reducible show wpAny _ _ (call (Value.ref 61) [Value.int _ _]) _ _ _); (with_reducible rename MaskOk _ _ _ => hC61); k_dflt (refine' PureC.use (hC61 _ _ _ _ _ _) ?zk1 ?zk2 ?zk3 ?zk4 ?zk5 ?zkK ?zkp ?zkd ?zku ?_; (case zk1 => k_asm); (case zk2 => k_asm); (case zk3 => k_asm); (case zk4 => k_asm); (case zk5 => k_asm); (case zkK => first | exact rfl | assumption); (case zkp => (refine ⟨?_, ?_⟩ <;> first | omega | decide)); (case zkd => ktr_room); (case zku => ktr_units); k_whole; intro v9 h9 tk9 hv9 F9 N9; obtain ⟨t9, e9⟩ := hv9; subst e9; (try dsimp only); (try k_sweep); (try k_fold)); all_goals k_steps)))
  exact hret _ [_, _, _] _ _ ⟨_, _, _, put_eq hW1 hW2 hv1 hv2⟩ (by k_asm) (by k_asm) (by assumption)
theorem setFOk (Qp : Program) (lop : List Str) : SetFOk Mine.pre.heap_1 Qp lop := by
  have hMkD : DMark := ⟨trivial⟩
  have hMask := maskOk Qp lop
  have hAllx := allxOk Qp lop
  have hWords := wordsOk Qp lop
  have hPut := putOk Qp lop
  unfold SetFOk
  intro w mean mg mb dp un gd cn cs a ccd cl outer A₀ base h₀ L m s Q E M oM news st dst S sig dsig vt esT esS nT nS nL W val F Lt p k1 k2 k3 t1 t2 t3 Bl Fm X N T hk hne hM loM m1 m2 hT m3 hG m4 hW1 hW2 hv1 hv2 hp0 hp1 hp2 hd hu hret
  have hG2 := hG
  obtain ⟨g1, g2, hS, hF1, hF2, hL1, hL2⟩ := hG2
  have hS2 := hS
  obtain ⟨⟨tw, eW⟩, ⟨tk, eK⟩, ⟨tf, eF⟩, ⟨tl, eL⟩, eM1, eM2, eM3⟩ := hS2
  obtain ⟨eT1, eT2, eT3, eT4⟩ := hT
  have hGm : Halt True := trivial
  obtain ⟨zs1, zs2, zs3, zs4, zs5⟩ := s
  (try dsimp only at F Fm N hret ⊢)
  refine wpAny_call ?_
  k_dflt cell_enter
  (k_steps; repeat' (refine Halt.on ?_; first | ((with_reducible show wpAny _ _ (call (Value.ref 61) [Value.int _ _]) _ _ _); (with_reducible rename MaskOk _ _ _ => hC61); k_dflt (refine' PureC.use (hC61 _ _ _ _ _ _) ?zk1 ?zk2 ?zk3 ?zk4 ?zk5 ?zkK ?zkp ?zkd ?zku ?_; (case zk1 => k_asm); (case zk2 => k_asm); (case zk3 => k_asm); (case zk4 => k_asm); (case zk5 => k_asm); (case zkK => first | exact rfl | assumption); (case zkp => (refine ⟨?_, ?_⟩ <;> first | omega | decide)); (case zkd => ktr_room); (case zku => ktr_units); k_whole; intro v9 h9 tk9 hv9 F9 N9; obtain ⟨t9, e9⟩ := hv9; subst e9; (try dsimp only); (try k_sweep); (try k_fold)); all_goals k_steps) | ((with_reducible show wpAny _ _ (call (Value.ref 83) [Value.int _ _]) _ _ _); (with_reducible rename AllxOk _ _ _ => hC83); k_dflt (refine' TupC.use (hC83 _ _ _ _ _ _) ?zk1 ?zk2 ?zk3 ?zk4 ?zk5 ?zkK ?zkp ?zkd ?zku ?_; (case zk1 => k_asm); (case zk2 => k_asm); (case zk3 => k_asm); (case zk4 => k_asm); (case zk5 => k_asm); (case zkK => first | exact rfl | assumption); (case zkp => (refine ⟨?_, ?_⟩ <;> first | omega | decide)); (case zkd => ktr_room); (case zku => ktr_units); k_whole; intro x9 v9 h9 tk9 hv9 F9 N9 l9; obtain ⟨t9, u9, w9, e9⟩ := hv9; subst e9; (try k_lt l9); (try dsimp only); (try k_sweep); (try k_fold)); all_goals k_steps) | ((with_reducible show wpAny _ _ (call (Value.ref 550) [Value.ref _]) _ _ _); (with_reducible rename WordsOk _ _ _ => hC550); k_dflt (refine' PureC.use (hC550 _ _ _ _ _ _ _ _ _ _ _) ?zk1 ?zk2 ?zk3 ?zk4 ?zk5 ?zkK ?zkp ?zkd ?zku ?_; (case zk1 => k_asm); (case zk2 => k_asm); (case zk3 => k_asm); (case zk4 => k_asm); (case zk5 => k_asm); (case zkK => first | exact rfl | assumption); (case zkp => (refine ⟨?zkm, ?zkn, ?zks, ?_, ?_, ?_, ?_⟩; (case zkm => k_mem); (case zkn => k_mem); (case zks => first | assumption | fail); all_goals (first | omega | assumption))); (case zkd => ktr_room); (case zku => ktr_units); k_whole; intro v9 h9 tk9 hv9 F9 N9; obtain ⟨k9, t9, e9, hw91, hw92⟩ := hv9; subst e9; (try dsimp only); (try k_sweep); (try k_fold)); all_goals k_steps) | ((with_reducible show wpAny _ _ (call (Value.ref 132) [Value.ref _, Value.int _ _, Value.ref _]) _ _ _); (with_reducible rename PutOk _ _ _ => hC132); k_dflt (refine' TupC.use (hC132 _ _ _ _ _ _ _ _ _ _ _ _ _ _ _) ?zk1 ?zk2 ?zk3 ?zk4 ?zk5 ?zkK ?zkp ?zkd ?zku ?_; (case zk1 => k_asm); (case zk2 => k_asm); (case zk3 => k_asm); (case zk4 => k_asm); (case zk5 => k_asm); (case zkK => first | exact rfl | assumption); (case zkp => (refine ⟨?zkm, ?zkn, ?_, ?_, ?_, ?_⟩; (case zkm => k_mem); (case zkn => k_mem); all_goals (first | omega | assumption))); (case zkd => ktr_room); (case zku => ktr_units); k_whole; intro x9 v9 h9 tk9 hv9 F9 N9 l9; obtain ⟨t9, u9, w9, e9⟩ := hv9; subst e9; (try k_lt l9); (try dsimp only); (try k_sweep); (try k_fold)); all_goals k_steps)))
  · exfalso; omega
  · (rename (_ && _) = true => hz); exact (set_ne hW1 hz).elim
  · (rename _ ∧ _ ∧ _ ∧ AllLt _ _ => hz)
    refine' hret _ _ _ _ _ _ _ _ _ ?zh1 ?zh2 ?zh3 ?zhF ?zhN ?zhl ?zhy
    (case zhN => exact dropTo (by assumption) (sub3 (by k_mem) (by k_mem) (by k_mem) (fun p hp => by repeat (first | exact hp | refine List.Mem.tail _ ?_))))
    (case zh1 => assumption); (case zh2 => assumption); (case zh3 => assumption); (case zhF => k_asm); (case zhl => exact ltM hz); (case zhy => refine ltN ?_; omega)
theorem setLOk (Qp : Program) (lop : List Str) : SetLOk Mine.pre.heap_1 Qp lop := by
  have hMkD : DMark := ⟨trivial⟩
  have hMask := maskOk Qp lop
  have hAllx := allxOk Qp lop
  have hWords := wordsOk Qp lop
  have hPut := putOk Qp lop
  unfold SetLOk
  intro w mean mg mb dp un gd cn cs a ccd cl outer A₀ base h₀ L m s Q E D oD news M st dst S sig dsig vt oM es esT esS nT nS nL W val F Lt p k1 k2 k3 t1 t2 t3 Bl Fm X N T hk hne m0 hM loM hD loD hv hlen m1 m2 hT m3 hG m4 hW1 hW2 hv1 hv2 hp0 hp1 hp2 hd hu hret
  have hG2 := hG
  obtain ⟨g1, g2, hS, hF1, hF2, hL1, hL2⟩ := hG2
  have hS2 := hS
  obtain ⟨⟨tw, eW⟩, ⟨tk, eK⟩, ⟨tf, eF⟩, ⟨tl, eL⟩, eM1, eM2, eM3⟩ := hS2
  obtain ⟨eT1, eT2, eT3, eT4⟩ := hT
  have hGm : Halt True := trivial
  obtain ⟨zs1, zs2, zs3, zs4, zs5⟩ := s
  (try dsimp only at F Fm N hret ⊢)
  refine wpAny_call ?_
  k_dflt cell_enter
  (k_steps; repeat' (refine Halt.on ?_; first | ((with_reducible show wpAny _ _ (call (Value.ref 61) [Value.int _ _]) _ _ _); (with_reducible rename MaskOk _ _ _ => hC61); k_dflt (refine' PureC.use (hC61 _ _ _ _ _ _) ?zk1 ?zk2 ?zk3 ?zk4 ?zk5 ?zkK ?zkp ?zkd ?zku ?_; (case zk1 => k_asm); (case zk2 => k_asm); (case zk3 => k_asm); (case zk4 => k_asm); (case zk5 => k_asm); (case zkK => first | exact rfl | assumption); (case zkp => (refine ⟨?_, ?_⟩ <;> first | omega | decide)); (case zkd => ktr_room); (case zku => ktr_units); k_whole; intro v9 h9 tk9 hv9 F9 N9; obtain ⟨t9, e9⟩ := hv9; subst e9; (try dsimp only); (try k_sweep); (try k_fold)); all_goals k_steps) | ((with_reducible show wpAny _ _ (call (Value.ref 83) [Value.int _ _]) _ _ _); (with_reducible rename AllxOk _ _ _ => hC83); k_dflt (refine' TupC.use (hC83 _ _ _ _ _ _) ?zk1 ?zk2 ?zk3 ?zk4 ?zk5 ?zkK ?zkp ?zkd ?zku ?_; (case zk1 => k_asm); (case zk2 => k_asm); (case zk3 => k_asm); (case zk4 => k_asm); (case zk5 => k_asm); (case zkK => first | exact rfl | assumption); (case zkp => (refine ⟨?_, ?_⟩ <;> first | omega | decide)); (case zkd => ktr_room); (case zku => ktr_units); k_whole; intro x9 v9 h9 tk9 hv9 F9 N9 l9; obtain ⟨t9, u9, w9, e9⟩ := hv9; subst e9; (try k_lt l9); (try dsimp only); (try k_sweep); (try k_fold)); all_goals k_steps) | ((with_reducible show wpAny _ _ (call (Value.ref 550) [Value.ref _]) _ _ _); (with_reducible rename WordsOk _ _ _ => hC550); k_dflt (refine' PureC.use (hC550 _ _ _ _ _ _ _ _ _ _ _) ?zk1 ?zk2 ?zk3 ?zk4 ?zk5 ?zkK ?zkp ?zkd ?zku ?_; (case zk1 => k_asm); (case zk2 => k_asm); (case zk3 => k_asm); (case zk4 => k_asm); (case zk5 => k_asm); (case zkK => first | exact rfl | assumption); (case zkp => (refine ⟨?zkm, ?zkn, ?zks, ?_, ?_, ?_, ?_⟩; (case zkm => k_mem); (case zkn => k_mem); (case zks => first | assumption | fail); all_goals (first | omega | assumption))); (case zkd => ktr_room); (case zku => ktr_units); k_whole; intro v9 h9 tk9 hv9 F9 N9; obtain ⟨k9, t9, e9, hw91, hw92⟩ := hv9; subst e9; (try dsimp only); (try k_sweep); (try k_fold)); all_goals k_steps) | ((with_reducible show wpAny _ _ (call (Value.ref 132) [Value.ref _, Value.int _ _, Value.ref _]) _ _ _); (with_reducible rename PutOk _ _ _ => hC132); k_dflt (refine' TupC.use (hC132 _ _ _ _ _ _ _ _ _ _ _ _ _ _ _) ?zk1 ?zk2 ?zk3 ?zk4 ?zk5 ?zkK ?zkp ?zkd ?zku ?_; (case zk1 => k_asm); (case zk2 => k_asm); (case zk3 => k_asm); (case zk4 => k_asm); (case zk5 => k_asm); (case zkK => first | exact rfl | assumption); (case zkp => (refine ⟨?zkm, ?zkn, ?_, ?_, ?_, ?_⟩; (case zkm => k_mem); (case zkn => k_mem); all_goals (first | omega | assumption))); (case zkd => ktr_room); (case zku => ktr_units); k_whole; intro x9 v9 h9 tk9 hv9 F9 N9 l9; obtain ⟨t9, u9, w9, e9⟩ := hv9; subst e9; (try k_lt l9); (try dsimp only); (try k_sweep); (try k_fold)); all_goals k_steps)))
  · exfalso; omega
  · (rename (_ && _) = true => hz); exact (set_ne hW1 hz).elim
  · (rename _ ∧ _ ∧ _ ∧ AllLt _ _ => hz)
    refine' hret _ _ _ _ _ _ _ ?zh1 ?zhF ?zhN ?zhl
    (case zhN => exact dropTo (by assumption) (sub2 (by k_mem) (by k_mem) (fun p hp => by repeat (first | exact hp | refine List.Mem.tail _ ?_))))
    (case zh1 => assumption); (case zhF => k_asm); (case zhl => exact ltM hz)
theorem memWOk (Qp : Program) (lop : List Str) : MemWOk Mine.pre.heap_1 Qp lop := by
  have hMkD : DMark := ⟨trivial⟩
  have hMask := maskOk Qp lop
  have hAllx := allxOk Qp lop
  have hWhole := wholeOk Qp lop
  have hPlace := placeOk Qp lop
  unfold MemWOk
  intro w mean mg mb dp un gd cn cs a ccd cl outer A₀ base h₀ L m s Q E news et ei ctx dctx M D st dst S sig dsig oM oD es f esC esT esS nC nT nS nL W F Lt fig unk sg ta tb tc td k1 k2 k3 Bl Fm X N T hk m0 mi hf1 hf2 hunk mc mdc eC mM hM loM mD hD loD m1 m2 hT m3 hG hW1 hW2 hfill hd hu hx hy
  have hG2 := hG
  obtain ⟨g1, g2, hS, hF1, hF2, hL1, hL2⟩ := hG2
  have hS2 := hS
  obtain ⟨⟨tw, eW⟩, ⟨tk, eK⟩, ⟨tf, eF⟩, ⟨tl, eL⟩, eM1, eM2, eM3⟩ := hS2
  obtain ⟨eT1, eT2, eT3, eT4⟩ := hT
  have hfm1 := fmod_lo fig (n := 256) (by decide)
  have hfm2 := fmod_hi fig (n := 256) (by decide)
  have hGm : Halt True := trivial
  obtain ⟨zs1, zs2, zs3, zs4, zs5⟩ := s
  (try dsimp only at F Fm N hx hy ⊢)
  refine wpAny_call ?_
  k_dflt cell_enter
  (k_steps; repeat' (refine Halt.on ?_; first | ((with_reducible show wpAny _ _ (call (Value.ref 61) [Value.int _ _]) _ _ _); (with_reducible rename MaskOk _ _ _ => hC61); k_dflt (refine' PureC.use (hC61 _ _ _ _ _ _) ?zk1 ?zk2 ?zk3 ?zk4 ?zk5 ?zkK ?zkp ?zkd ?zku ?_; (case zk1 => k_asm); (case zk2 => k_asm); (case zk3 => k_asm); (case zk4 => k_asm); (case zk5 => k_asm); (case zkK => first | exact rfl | assumption); (case zkp => (refine ⟨?_, ?_⟩ <;> first | omega | decide)); (case zkd => ktr_room); (case zku => ktr_units); k_whole; intro v9 h9 tk9 hv9 F9 N9; obtain ⟨t9, e9⟩ := hv9; subst e9; (try dsimp only); (try k_sweep); (try k_fold)); all_goals k_steps) | ((with_reducible show wpAny _ _ (call (Value.ref 83) [Value.int _ _]) _ _ _); (with_reducible rename AllxOk _ _ _ => hC83); k_dflt (refine' TupC.use (hC83 _ _ _ _ _ _) ?zk1 ?zk2 ?zk3 ?zk4 ?zk5 ?zkK ?zkp ?zkd ?zku ?_; (case zk1 => k_asm); (case zk2 => k_asm); (case zk3 => k_asm); (case zk4 => k_asm); (case zk5 => k_asm); (case zkK => first | exact rfl | assumption); (case zkp => (refine ⟨?_, ?_⟩ <;> first | omega | decide)); (case zkd => ktr_room); (case zku => ktr_units); k_whole; intro x9 v9 h9 tk9 hv9 F9 N9 l9; obtain ⟨t9, u9, w9, e9⟩ := hv9; subst e9; (try k_lt l9); (try dsimp only); (try k_sweep); (try k_fold)); all_goals k_steps) | ((with_reducible show wpAny _ _ (call (Value.ref 461) [Value.ref _, Value.bool _, Value.ref _]) _ _ _); (with_reducible rename WholeOk _ _ _ => hC461); k_dflt (refine' PureC.use (hC461 _ _ _ _ _ _ _ _ _ _ _ _ _) ?zk1 ?zk2 ?zk3 ?zk4 ?zk5 ?zkK ?zkp ?zkd ?zku ?_; (case zk1 => k_asm); (case zk2 => k_asm); (case zk3 => k_asm); (case zk4 => k_asm); (case zk5 => k_asm); (case zkK => first | exact rfl | assumption); (case zkp => (refine ⟨?zkm, ?_, ?_, ?_⟩; (case zkm => k_mem); all_goals (first | omega | decide | assumption))); (case zkd => ktr_room); (case zku => ktr_units); k_whole; intro v9 h9 tk9 hv9 F9 N9; first | ((have e9 := idx_none hv9 (by assumption)); subst e9; clear hv9) | ((have e9 := idx_some hv9 (by assumption)); clear hv9; obtain ⟨t9, e9⟩ := e9; subst e9) | (obtain ⟨hu9, e9⟩ | ⟨hu9, t9, e9⟩ := hv9; all_goals subst e9); (try dsimp only); (try k_sweep); (try k_fold)); all_goals k_steps) | ((with_reducible show wpAny _ _ (call (Value.ref 564) [Value.ref _, Value.int _ _]) _ _ _); (with_reducible rename PlaceOk _ _ _ => hC564); k_dflt (refine' PureC.use (hC564 _ _ _ _ _ _ _ _ _ _ _ _ _) ?zk1 ?zk2 ?zk3 ?zk4 ?zk5 ?zkK ?zkp ?zkd ?zku ?_; (case zk1 => k_asm); (case zk2 => k_asm); (case zk3 => k_asm); (case zk4 => k_asm); (case zk5 => k_asm); (case zkK => first | exact rfl | assumption); (case zkp => (refine ⟨⟨?zkm, ?zkn, ?zks, ?_, ?_, ?_, ?_⟩, ?_, ?_⟩; (case zkm => k_mem); (case zkn => k_mem); (case zks => first | assumption | fail); all_goals (first | omega | assumption))); (case zkd => ktr_room); (case zku => ktr_units); k_whole; intro v9 h9 tk9 hv9 F9 N9; obtain ⟨k9, t9, e9, hp9⟩ := hv9; subst e9; (try dsimp only); (try k_sweep); (try k_fold)); all_goals k_steps)))
  · exact hx _ _ _ _ _ _ (.inl (by assumption)) (by k_asm) (by k_asm) (by assumption)
  · (rename PlaceR _ _ _ _ => hp9); exact hx _ _ _ _ _ _ (.inr ⟨by assumption, place_neg hp9 (by assumption)⟩) (by k_asm) (by k_asm) (by assumption)
  · (rename PlaceR _ _ _ _ => hp9); exact hy _ _ _ (by assumption) hp9 (by omega) (by k_asm) (by k_asm)
theorem memoryOk (Qp : Program) (lop : List Str) : MemoryOk Mine.pre.heap_1 Qp lop := by
  have hMold := moldOk Qp lop
  have hIndex := indexOk Qp lop
  have hSetF := setFOk Qp lop
  have hSetL := setLOk Qp lop
  have hMemW := memWOk Qp lop
  unfold MemoryOk
  intro w mean mg mb
  unfold ClayC
  intro dp un gd cn cs a ccd cl outer A₀ base h₀ L m s Q E c vs ns n news B F X N T hk hne hI hlen hpre hd hu hret
  have hGm : Halt True := trivial
  obtain ⟨zs1, zs2, zs3, zs4, zs5⟩ := s
  (try dsimp only at F N hret ⊢)
  refine wpAny_call ?_
  k_dflt cell_enter
  (rename Fr h₀ L _ m => FG1)
  have hd' := Hid.mk hd; have hu' := Hid.mk hu; have FG2 := Hid.mk FG1
  (k_steps; repeat' (refine Halt.on ?_; first | ((with_reducible show wpAny _ _ (call (Value.ref 733) [Value.ref _, Value.int _ _]) _ _ _); (with_reducible rename MoldOk _ _ _ => hC733); k_dflt (refine' ClayC.use (hC733 _ _ _ _ _ _) ?zk1 ?zk2 ?zk3 ?zk4 ?zk5 ?zkK ?zkU ?zkI ?zkl ?zkp ?zkd ?zku ?_; (case zk1 => k_asm); (case zk2 => k_asm); (case zk3 => k_asm); (case zk4 => k_asm); (case zk5 => k_asm); (case zkK => first | exact rfl | assumption); (case zkU => k_updF); (case zkI => with_reducible assumption); (case zkl => first | assumption | omega); (case zkp => first | decide | omega | exact kbt_pos _); (case zkd => ktr_room); (case zku => ktr_units); k_whole; intro v9 h9 tk9 vs9 ns9 n9 hv9 hI9 hl9 F9 N9; obtain ⟨r9, t9, e9, hr0, hr1⟩ := hv9; subst e9; (try dsimp only at N9); (try dsimp only); (try k_sweep); (try k_fold)); all_goals k_steps) | ((with_reducible show wpAny _ _ (call (Value.ref 740) [Value.ref _, Value.int _ _, Value.int _ _]) _ _ _); (with_reducible rename IndexOk _ _ _ => hC740); k_dflt (refine' IdxC.use (hC740 _ _ _ _ _ _ _ _) ?zk1 ?zk2 ?zk3 ?zk4 ?zk5 ?zkK ?zkU ?zkI ?zkl ?zkp ?zkd ?zku ?_; (case zk1 => k_asm); (case zk2 => k_asm); (case zk3 => k_asm); (case zk4 => k_asm); (case zk5 => k_asm); (case zkK => first | exact rfl | assumption); (case zkU => k_updF); (case zkI => with_reducible assumption); (case zkl => first | assumption | omega); (case zkp => (refine ⟨?_, ?_, ?_, ?_⟩; all_goals (first | omega | decide))); (case zkd => ktr_room); (case zku => ktr_units); k_whole; intro T9 e9 fig9 unk9 sg9 v9 ta9 tb9 tc9 td9 h9 tk9 vs9 ns9 n9 hf1 hf2 hV9 hI9 hl9 F9 N9 l9 l9b; (try k_lt l9); (try k_lt2 l9b); (try dsimp only at N9); (try dsimp only); (try k_sweep); (try k_fold)); all_goals k_steps) | ((with_reducible show wpAny _ _ (call (Value.ref 669) [Value.ref _, Value.int _ _, Value.int _ _, Value.int _ _, Value.ref _]) _ _ _); (with_reducible rename MInv _ _ _ _ _ _ _ _ => hJ1); (with_reducible rename SetLOk _ _ _ => hC1); k_dflt ( refine' SetLOk.use hC1 ?zk1 ?zk2 ?zk3 ?zk4 ?zk5 ?zk6 ?zU ?zm0 ?zn0 ?zhM ?zloM ?zhD ?zloD ?zhv ?zhl ?zm1 ?zn1 ?zm2 ?zn2 ?zhT ?zm3 ?zn3 ?zhG ?zn4 ?zn5 ?zm4 ?zn6 ?zw1 ?zw2 ?zv1 ?zv2 ?zp0 ?zp1 ?zp2 ?zkd ?zku ?_; (case zk1 => k_asm); (case zk2 => k_asm); (case zk3 => k_asm); (case zk4 => k_asm); (case zk5 => k_asm); (case zk6 => exact rfl); (case zm1 => k_mem); (case zm2 => k_mem); (case zhT => assumption); (case zm3 => k_mem); (case zm0 => k_mem); (case zhM => with_reducible assumption); (case zloM => with_reducible assumption); (case zU => k_updF); (case zhD => with_reducible assumption); (case zloD => with_reducible assumption); (case zhv => exact hJ1.none _ (by omega)); (case zhl => (have hl9 := hJ1.elen); omega); (case zhG => (refine ⟨?zga, ?zgb, ?zgc, ?_, ?_, ?_, ?_⟩; (case zga => k_mem); (case zgb => k_mem); (case zgc => assumption); all_goals omega)); (case zm4 => k_mem); (case zn0 => k_ne); (case zn1 => k_ne); (case zn2 => k_ne); (case zn3 => k_ne); (case zn4 => k_ne); (case zn5 => k_ne); (case zn6 => k_ne); (case zw1 => omega); (case zw2 => omega); (case zv1 => exact fmod_lo _ (kbt_pos _)); (case zv2 => exact fmod_hi _ (kbt_pos _)); (case zp0 => omega); (case zp1 => omega); (case zp2 => omega); (case zkd => ktr_room); (case zku => ktr_units); k_whole; intro y9 oD9 u91 u92 u93 h9 tk9 hD9 F9 N9 l9; (try dsimp only at N9); (try k_lt l9); (try dsimp only); (try k_sweep); (try k_fold)); all_goals k_steps) | ((with_reducible show wpAny _ _ (call (Value.ref 669) [Value.ref _, Value.int _ _, Value.int _ _, Value.int _ _, Value.ref _]) _ _ _); (with_reducible rename SetFOk _ _ _ => hC1); k_dflt ( refine' SetFOk.use hC1 ?zk1 ?zk2 ?zk3 ?zk4 ?zk5 ?zk6 ?zU ?zhM ?zloM ?zm1 ?zn1 ?zm2 ?zn2 ?zhT ?zm3 ?zn3 ?zhG ?zn4 ?zn5 ?zm4 ?zn6 ?zw1 ?zw2 ?zv1 ?zv2 ?zp0 ?zp1 ?zp2 ?zkd ?zku ?_; (case zk1 => k_asm); (case zk2 => k_asm); (case zk3 => k_asm); (case zk4 => k_asm); (case zk5 => k_asm); (case zk6 => exact rfl); (case zm1 => k_mem); (case zm2 => k_mem); (case zhT => first | assumption | exact ⟨by k_get, by k_get, by k_get, by k_get⟩); (case zm3 => k_mem); (case zU => k_updF); (case zhM => with_reducible assumption); (case zloM => with_reducible assumption); (case zhG => (refine ⟨?zga, ?zgb, ?zgc, ?_, ?_, ?_, ?_⟩; (case zga => k_mem); (case zgb => k_mem); (case zgc => first | assumption | exact ⟨⟨_, by k_get⟩, ⟨_, by k_get⟩, ⟨_, by k_get⟩, ⟨_, by k_get⟩, by k_get, by k_get, by k_get⟩); all_goals omega)); (case zm4 => k_mem); (case zn1 => k_ne); (case zn2 => k_ne); (case zn3 => k_ne); (case zn4 => k_ne); (case zn5 => k_ne); (case zn6 => k_ne); (case zw1 => omega); (case zw2 => omega); (case zv1 => exact fmod_lo _ (kbt_pos _)); (case zv2 => exact fmod_hi _ (kbt_pos _)); (case zp0 => omega); (case zp1 => omega); (case zp2 => omega); (case zkd => ktr_room); (case zku => ktr_units); k_whole; intro D9 y9 oM9 oD9 u91 u92 u93 h9 tk9 hM9 hD9 lo9 F9 N9 l9 l9b; (try dsimp only at N9); (try k_lt l9); (try k_lt2 l9b); (try dsimp only); (try k_sweep); (try k_fold)); all_goals k_steps)))
  (rename _ < (4 : Int) => hw1); obtain ⟨rw, eq⟩ : ∃ x, x = lhsOf hw1 := ⟨_, rfl⟩; (dsimp only [lhsOf] at eq); subst eq
  have hw2 := Hid.mk hw1; clear hw1
  (rename _ < (4 : Int) => hn1); obtain ⟨rn, eq⟩ : ∃ x, x = lhsOf hn1 := ⟨_, rfl⟩; (dsimp only [lhsOf] at eq); subst eq
  have hw1 := hw2.out; clear hw2
  (rename _ < (2 : Int) => hf1); obtain ⟨rf, eq⟩ : ∃ x, x = lhsOf hf1 := ⟨_, rfl⟩; (dsimp only [lhsOf] at eq); subst eq
  (rename _ < (5 : Int) => hl1); obtain ⟨rl, eq⟩ : ∃ x, x = lhsOf hl1 := ⟨_, rfl⟩; (dsimp only [lhsOf] at eq); subst eq
  (rename News _ _ _ _ => hN); (rename Fr _ _ _ _ => hF)
  obtain ⟨sig, eq⟩ : ∃ x, x = nthA (ledOf hN) 0 := ⟨_, rfl⟩; (dsimp only [nthA, ledOf] at eq); subst eq
  obtain ⟨dsig, eq⟩ : ∃ x, x = nthA (ledOf hN) 1 := ⟨_, rfl⟩; (dsimp only [nthA, ledOf] at eq); subst eq
  obtain ⟨S, eq⟩ : ∃ x, x = nthA (ledOf hN) 11 := ⟨_, rfl⟩; (dsimp only [nthA, ledOf] at eq); subst eq
  obtain ⟨De, eq⟩ : ∃ x, x = nthA (ledOf hN) 12 := ⟨_, rfl⟩; (dsimp only [nthA, ledOf] at eq); subst eq
  obtain ⟨dDe, eq⟩ : ∃ x, x = nthA (ledOf hN) 13 := ⟨_, rfl⟩; (dsimp only [nthA, ledOf] at eq); subst eq
  (rename IntsAre _ _ => hIa); (rename List.length _ ≤ 50 => hLb)
  have hOrd : LT.lt (α := Nat) c dDe ∧ LT.lt (α := Nat) dDe De ∧ LT.lt (α := Nat) De S ∧ LT.lt (α := Nat) S dsig ∧ LT.lt (α := Nat) dsig sig ∧ AllLt dDe news := by
    (repeat (rename _ ∧ _ => hz; obtain ⟨_, _⟩ := hz)); exact ⟨by with_reducible assumption, by with_reducible assumption, by with_reducible assumption, by with_reducible assumption, by with_reducible assumption, by with_reducible assumption⟩
  have hN2 := Hid.mk (show News _ _ _ ((sig, _) :: (dsig, _) :: (S, _) :: (De, _) :: (dDe, _) :: (c, _) :: news) from dropTo hN (subC (by k_mem) (subC (by k_mem) (subC (by k_mem) (subC (by k_mem) (subC (by k_mem) (subC (by k_mem) (fun p hp => by repeat (first | exact hp | refine List.Mem.tail _ ?_)))))))))
  have hF2 := Hid.mk hF; have hIa2 := Hid.mk hIa; have hLb2 := Hid.mk hLb; have hOrd2 := Hid.mk hOrd
  ((repeat (rename _ ∧ _ => hz; clear hz)); (repeat (rename (_ : Nat) < _ => hz; clear hz)); (repeat (rename AllLt _ _ => hz; clear hz)); (repeat (rename PySem.Obj.IsDictOf _ _ _ => hz; clear hz)); (repeat (rename PyProof.V.FlatPairs _ _ _ => hz; clear hz)); (repeat (rename IntsAre _ _ => hz; clear hz)); (repeat (rename Fr _ _ _ _ => hz; clear hz)); (repeat (rename News _ _ _ _ => hz; clear hz)); (repeat (rename ((_ == sysModules) = false) => hz; clear hz)); (repeat (rename List.length _ ≤ _ => hz; clear hz)))
  have hd := hd'.out; have hu := hu'.out; have FG1 := FG2.out
  have hF := hF2.out; have hN := hN2.out; have hIa := hIa2.out; have hLb := hLb2.out; have hOrd := hOrd2.out; clear hF2 hN2 hIa2 hLb2 hOrd2
  obtain ⟨o1, o2, o3, o4, o5, o6⟩ := hOrd
  have o7 : AllLt dsig news := allLt_up o6 (by omega)
  obtain ⟨Fx, hFx⟩ : ∃ x : Int, x = if rf = 0 then rl - 2 + (2 + rn) - 1 else rl - 2 := ⟨_, rfl⟩
  obtain ⟨Lx, hLx⟩ : ∃ x : Int, x = if rf = 0 then rl - 2 else rl - 2 + (2 + rn) - 1 := ⟨_, rfl⟩
  refine Halt.on ?_
  refine join_int Fx ?_ ?_
  · with_reducible refine IfExp_ ?_
    (k_steps; repeat' (refine Halt.on ?_; first | ((with_reducible show wpAny _ _ (call (Value.ref 733) [Value.ref _, Value.int _ _]) _ _ _); (with_reducible rename MoldOk _ _ _ => hC733); k_dflt (refine' ClayC.use (hC733 _ _ _ _ _ _) ?zk1 ?zk2 ?zk3 ?zk4 ?zk5 ?zkK ?zkU ?zkI ?zkl ?zkp ?zkd ?zku ?_; (case zk1 => k_asm); (case zk2 => k_asm); (case zk3 => k_asm); (case zk4 => k_asm); (case zk5 => k_asm); (case zkK => first | exact rfl | assumption); (case zkU => k_updF); (case zkI => with_reducible assumption); (case zkl => first | assumption | omega); (case zkp => first | decide | omega | exact kbt_pos _); (case zkd => ktr_room); (case zku => ktr_units); k_whole; intro v9 h9 tk9 vs9 ns9 n9 hv9 hI9 hl9 F9 N9; obtain ⟨r9, t9, e9, hr0, hr1⟩ := hv9; subst e9; (try dsimp only at N9); (try dsimp only); (try k_sweep); (try k_fold)); all_goals k_steps) | ((with_reducible show wpAny _ _ (call (Value.ref 740) [Value.ref _, Value.int _ _, Value.int _ _]) _ _ _); (with_reducible rename IndexOk _ _ _ => hC740); k_dflt (refine' IdxC.use (hC740 _ _ _ _ _ _ _ _) ?zk1 ?zk2 ?zk3 ?zk4 ?zk5 ?zkK ?zkU ?zkI ?zkl ?zkp ?zkd ?zku ?_; (case zk1 => k_asm); (case zk2 => k_asm); (case zk3 => k_asm); (case zk4 => k_asm); (case zk5 => k_asm); (case zkK => first | exact rfl | assumption); (case zkU => k_updF); (case zkI => with_reducible assumption); (case zkl => first | assumption | omega); (case zkp => (refine ⟨?_, ?_, ?_, ?_⟩; all_goals (first | omega | decide))); (case zkd => ktr_room); (case zku => ktr_units); k_whole; intro T9 e9 fig9 unk9 sg9 v9 ta9 tb9 tc9 td9 h9 tk9 vs9 ns9 n9 hf1 hf2 hV9 hI9 hl9 F9 N9 l9 l9b; (try k_lt l9); (try k_lt2 l9b); (try dsimp only at N9); (try dsimp only); (try k_sweep); (try k_fold)); all_goals k_steps) | ((with_reducible show wpAny _ _ (call (Value.ref 669) [Value.ref _, Value.int _ _, Value.int _ _, Value.int _ _, Value.ref _]) _ _ _); (with_reducible rename MInv _ _ _ _ _ _ _ _ => hJ1); (with_reducible rename SetLOk _ _ _ => hC1); k_dflt ( refine' SetLOk.use hC1 ?zk1 ?zk2 ?zk3 ?zk4 ?zk5 ?zk6 ?zU ?zm0 ?zn0 ?zhM ?zloM ?zhD ?zloD ?zhv ?zhl ?zm1 ?zn1 ?zm2 ?zn2 ?zhT ?zm3 ?zn3 ?zhG ?zn4 ?zn5 ?zm4 ?zn6 ?zw1 ?zw2 ?zv1 ?zv2 ?zp0 ?zp1 ?zp2 ?zkd ?zku ?_; (case zk1 => k_asm); (case zk2 => k_asm); (case zk3 => k_asm); (case zk4 => k_asm); (case zk5 => k_asm); (case zk6 => exact rfl); (case zm1 => k_mem); (case zm2 => k_mem); (case zhT => assumption); (case zm3 => k_mem); (case zm0 => k_mem); (case zhM => with_reducible assumption); (case zloM => with_reducible assumption); (case zU => k_updF); (case zhD => with_reducible assumption); (case zloD => with_reducible assumption); (case zhv => exact hJ1.none _ (by omega)); (case zhl => (have hl9 := hJ1.elen); omega); (case zhG => (refine ⟨?zga, ?zgb, ?zgc, ?_, ?_, ?_, ?_⟩; (case zga => k_mem); (case zgb => k_mem); (case zgc => assumption); all_goals omega)); (case zm4 => k_mem); (case zn0 => k_ne); (case zn1 => k_ne); (case zn2 => k_ne); (case zn3 => k_ne); (case zn4 => k_ne); (case zn5 => k_ne); (case zn6 => k_ne); (case zw1 => omega); (case zw2 => omega); (case zv1 => exact fmod_lo _ (kbt_pos _)); (case zv2 => exact fmod_hi _ (kbt_pos _)); (case zp0 => omega); (case zp1 => omega); (case zp2 => omega); (case zkd => ktr_room); (case zku => ktr_units); k_whole; intro y9 oD9 u91 u92 u93 h9 tk9 hD9 F9 N9 l9; (try dsimp only at N9); (try k_lt l9); (try dsimp only); (try k_sweep); (try k_fold)); all_goals k_steps) | ((with_reducible show wpAny _ _ (call (Value.ref 669) [Value.ref _, Value.int _ _, Value.int _ _, Value.int _ _, Value.ref _]) _ _ _); (with_reducible rename SetFOk _ _ _ => hC1); k_dflt ( refine' SetFOk.use hC1 ?zk1 ?zk2 ?zk3 ?zk4 ?zk5 ?zk6 ?zU ?zhM ?zloM ?zm1 ?zn1 ?zm2 ?zn2 ?zhT ?zm3 ?zn3 ?zhG ?zn4 ?zn5 ?zm4 ?zn6 ?zw1 ?zw2 ?zv1 ?zv2 ?zp0 ?zp1 ?zp2 ?zkd ?zku ?_; (case zk1 => k_asm); (case zk2 => k_asm); (case zk3 => k_asm); (case zk4 => k_asm); (case zk5 => k_asm); (case zk6 => exact rfl); (case zm1 => k_mem); (case zm2 => k_mem); (case zhT => first | assumption | exact ⟨by k_get, by k_get, by k_get, by k_get⟩); (case zm3 => k_mem); (case zU => k_updF); (case zhM => with_reducible assumption); (case zloM => with_reducible assumption); (case zhG => (refine ⟨?zga, ?zgb, ?zgc, ?_, ?_, ?_, ?_⟩; (case zga => k_mem); (case zgb => k_mem); (case zgc => first | assumption | exact ⟨⟨_, by k_get⟩, ⟨_, by k_get⟩, ⟨_, by k_get⟩, ⟨_, by k_get⟩, by k_get, by k_get, by k_get⟩); all_goals omega)); (case zm4 => k_mem); (case zn1 => k_ne); (case zn2 => k_ne); (case zn3 => k_ne); (case zn4 => k_ne); (case zn5 => k_ne); (case zn6 => k_ne); (case zw1 => omega); (case zw2 => omega); (case zv1 => exact fmod_lo _ (kbt_pos _)); (case zv2 => exact fmod_hi _ (kbt_pos _)); (case zp0 => omega); (case zp1 => omega); (case zp2 => omega); (case zkd => ktr_room); (case zku => ktr_units); k_whole; intro D9 y9 oM9 oD9 u91 u92 u93 h9 tk9 hM9 hD9 lo9 F9 N9 l9 l9b; (try dsimp only at N9); (try k_lt l9); (try k_lt2 l9b); (try dsimp only); (try k_sweep); (try k_fold)); all_goals k_steps)))
    · refine Halt.on (JoinI.of ?_ rfl); rw [hFx, if_pos (by assumption)]
    · refine Halt.on (JoinI.of ?_ rfl); rw [hFx, if_neg (by assumption)]
  intro tF kF
  (try dsimp only)
  (k_steps; repeat' (refine Halt.on ?_; first | ((with_reducible show wpAny _ _ (call (Value.ref 733) [Value.ref _, Value.int _ _]) _ _ _); (with_reducible rename MoldOk _ _ _ => hC733); k_dflt (refine' ClayC.use (hC733 _ _ _ _ _ _) ?zk1 ?zk2 ?zk3 ?zk4 ?zk5 ?zkK ?zkU ?zkI ?zkl ?zkp ?zkd ?zku ?_; (case zk1 => k_asm); (case zk2 => k_asm); (case zk3 => k_asm); (case zk4 => k_asm); (case zk5 => k_asm); (case zkK => first | exact rfl | assumption); (case zkU => k_updF); (case zkI => with_reducible assumption); (case zkl => first | assumption | omega); (case zkp => first | decide | omega | exact kbt_pos _); (case zkd => ktr_room); (case zku => ktr_units); k_whole; intro v9 h9 tk9 vs9 ns9 n9 hv9 hI9 hl9 F9 N9; obtain ⟨r9, t9, e9, hr0, hr1⟩ := hv9; subst e9; (try dsimp only at N9); (try dsimp only); (try k_sweep); (try k_fold)); all_goals k_steps) | ((with_reducible show wpAny _ _ (call (Value.ref 740) [Value.ref _, Value.int _ _, Value.int _ _]) _ _ _); (with_reducible rename IndexOk _ _ _ => hC740); k_dflt (refine' IdxC.use (hC740 _ _ _ _ _ _ _ _) ?zk1 ?zk2 ?zk3 ?zk4 ?zk5 ?zkK ?zkU ?zkI ?zkl ?zkp ?zkd ?zku ?_; (case zk1 => k_asm); (case zk2 => k_asm); (case zk3 => k_asm); (case zk4 => k_asm); (case zk5 => k_asm); (case zkK => first | exact rfl | assumption); (case zkU => k_updF); (case zkI => with_reducible assumption); (case zkl => first | assumption | omega); (case zkp => (refine ⟨?_, ?_, ?_, ?_⟩; all_goals (first | omega | decide))); (case zkd => ktr_room); (case zku => ktr_units); k_whole; intro T9 e9 fig9 unk9 sg9 v9 ta9 tb9 tc9 td9 h9 tk9 vs9 ns9 n9 hf1 hf2 hV9 hI9 hl9 F9 N9 l9 l9b; (try k_lt l9); (try k_lt2 l9b); (try dsimp only at N9); (try dsimp only); (try k_sweep); (try k_fold)); all_goals k_steps) | ((with_reducible show wpAny _ _ (call (Value.ref 669) [Value.ref _, Value.int _ _, Value.int _ _, Value.int _ _, Value.ref _]) _ _ _); (with_reducible rename MInv _ _ _ _ _ _ _ _ => hJ1); (with_reducible rename SetLOk _ _ _ => hC1); k_dflt ( refine' SetLOk.use hC1 ?zk1 ?zk2 ?zk3 ?zk4 ?zk5 ?zk6 ?zU ?zm0 ?zn0 ?zhM ?zloM ?zhD ?zloD ?zhv ?zhl ?zm1 ?zn1 ?zm2 ?zn2 ?zhT ?zm3 ?zn3 ?zhG ?zn4 ?zn5 ?zm4 ?zn6 ?zw1 ?zw2 ?zv1 ?zv2 ?zp0 ?zp1 ?zp2 ?zkd ?zku ?_; (case zk1 => k_asm); (case zk2 => k_asm); (case zk3 => k_asm); (case zk4 => k_asm); (case zk5 => k_asm); (case zk6 => exact rfl); (case zm1 => k_mem); (case zm2 => k_mem); (case zhT => assumption); (case zm3 => k_mem); (case zm0 => k_mem); (case zhM => with_reducible assumption); (case zloM => with_reducible assumption); (case zU => k_updF); (case zhD => with_reducible assumption); (case zloD => with_reducible assumption); (case zhv => exact hJ1.none _ (by omega)); (case zhl => (have hl9 := hJ1.elen); omega); (case zhG => (refine ⟨?zga, ?zgb, ?zgc, ?_, ?_, ?_, ?_⟩; (case zga => k_mem); (case zgb => k_mem); (case zgc => assumption); all_goals omega)); (case zm4 => k_mem); (case zn0 => k_ne); (case zn1 => k_ne); (case zn2 => k_ne); (case zn3 => k_ne); (case zn4 => k_ne); (case zn5 => k_ne); (case zn6 => k_ne); (case zw1 => omega); (case zw2 => omega); (case zv1 => exact fmod_lo _ (kbt_pos _)); (case zv2 => exact fmod_hi _ (kbt_pos _)); (case zp0 => omega); (case zp1 => omega); (case zp2 => omega); (case zkd => ktr_room); (case zku => ktr_units); k_whole; intro y9 oD9 u91 u92 u93 h9 tk9 hD9 F9 N9 l9; (try dsimp only at N9); (try k_lt l9); (try dsimp only); (try k_sweep); (try k_fold)); all_goals k_steps) | ((with_reducible show wpAny _ _ (call (Value.ref 669) [Value.ref _, Value.int _ _, Value.int _ _, Value.int _ _, Value.ref _]) _ _ _); (with_reducible rename SetFOk _ _ _ => hC1); k_dflt ( refine' SetFOk.use hC1 ?zk1 ?zk2 ?zk3 ?zk4 ?zk5 ?zk6 ?zU ?zhM ?zloM ?zm1 ?zn1 ?zm2 ?zn2 ?zhT ?zm3 ?zn3 ?zhG ?zn4 ?zn5 ?zm4 ?zn6 ?zw1 ?zw2 ?zv1 ?zv2 ?zp0 ?zp1 ?zp2 ?zkd ?zku ?_; (case zk1 => k_asm); (case zk2 => k_asm); (case zk3 => k_asm); (case zk4 => k_asm); (case zk5 => k_asm); (case zk6 => exact rfl); (case zm1 => k_mem); (case zm2 => k_mem); (case zhT => first | assumption | exact ⟨by k_get, by k_get, by k_get, by k_get⟩); (case zm3 => k_mem); (case zU => k_updF); (case zhM => with_reducible assumption); (case zloM => with_reducible assumption); (case zhG => (refine ⟨?zga, ?zgb, ?zgc, ?_, ?_, ?_, ?_⟩; (case zga => k_mem); (case zgb => k_mem); (case zgc => first | assumption | exact ⟨⟨_, by k_get⟩, ⟨_, by k_get⟩, ⟨_, by k_get⟩, ⟨_, by k_get⟩, by k_get, by k_get, by k_get⟩); all_goals omega)); (case zm4 => k_mem); (case zn1 => k_ne); (case zn2 => k_ne); (case zn3 => k_ne); (case zn4 => k_ne); (case zn5 => k_ne); (case zn6 => k_ne); (case zw1 => omega); (case zw2 => omega); (case zv1 => exact fmod_lo _ (kbt_pos _)); (case zv2 => exact fmod_hi _ (kbt_pos _)); (case zp0 => omega); (case zp1 => omega); (case zp2 => omega); (case zkd => ktr_room); (case zku => ktr_units); k_whole; intro D9 y9 oM9 oD9 u91 u92 u93 h9 tk9 hM9 hD9 lo9 F9 N9 l9 l9b; (try dsimp only at N9); (try k_lt l9); (try k_lt2 l9b); (try dsimp only); (try k_sweep); (try k_fold)); all_goals k_steps)))
  refine Halt.on ?_
  refine join_int Lx ?_ ?_
  · with_reducible refine IfExp_ ?_
    (k_steps; repeat' (refine Halt.on ?_; first | ((with_reducible show wpAny _ _ (call (Value.ref 733) [Value.ref _, Value.int _ _]) _ _ _); (with_reducible rename MoldOk _ _ _ => hC733); k_dflt (refine' ClayC.use (hC733 _ _ _ _ _ _) ?zk1 ?zk2 ?zk3 ?zk4 ?zk5 ?zkK ?zkU ?zkI ?zkl ?zkp ?zkd ?zku ?_; (case zk1 => k_asm); (case zk2 => k_asm); (case zk3 => k_asm); (case zk4 => k_asm); (case zk5 => k_asm); (case zkK => first | exact rfl | assumption); (case zkU => k_updF); (case zkI => with_reducible assumption); (case zkl => first | assumption | omega); (case zkp => first | decide | omega | exact kbt_pos _); (case zkd => ktr_room); (case zku => ktr_units); k_whole; intro v9 h9 tk9 vs9 ns9 n9 hv9 hI9 hl9 F9 N9; obtain ⟨r9, t9, e9, hr0, hr1⟩ := hv9; subst e9; (try dsimp only at N9); (try dsimp only); (try k_sweep); (try k_fold)); all_goals k_steps) | ((with_reducible show wpAny _ _ (call (Value.ref 740) [Value.ref _, Value.int _ _, Value.int _ _]) _ _ _); (with_reducible rename IndexOk _ _ _ => hC740); k_dflt (refine' IdxC.use (hC740 _ _ _ _ _ _ _ _) ?zk1 ?zk2 ?zk3 ?zk4 ?zk5 ?zkK ?zkU ?zkI ?zkl ?zkp ?zkd ?zku ?_; (case zk1 => k_asm); (case zk2 => k_asm); (case zk3 => k_asm); (case zk4 => k_asm); (case zk5 => k_asm); (case zkK => first | exact rfl | assumption); (case zkU => k_updF); (case zkI => with_reducible assumption); (case zkl => first | assumption | omega); (case zkp => (refine ⟨?_, ?_, ?_, ?_⟩; all_goals (first | omega | decide))); (case zkd => ktr_room); (case zku => ktr_units); k_whole; intro T9 e9 fig9 unk9 sg9 v9 ta9 tb9 tc9 td9 h9 tk9 vs9 ns9 n9 hf1 hf2 hV9 hI9 hl9 F9 N9 l9 l9b; (try k_lt l9); (try k_lt2 l9b); (try dsimp only at N9); (try dsimp only); (try k_sweep); (try k_fold)); all_goals k_steps) | ((with_reducible show wpAny _ _ (call (Value.ref 669) [Value.ref _, Value.int _ _, Value.int _ _, Value.int _ _, Value.ref _]) _ _ _); (with_reducible rename MInv _ _ _ _ _ _ _ _ => hJ1); (with_reducible rename SetLOk _ _ _ => hC1); k_dflt ( refine' SetLOk.use hC1 ?zk1 ?zk2 ?zk3 ?zk4 ?zk5 ?zk6 ?zU ?zm0 ?zn0 ?zhM ?zloM ?zhD ?zloD ?zhv ?zhl ?zm1 ?zn1 ?zm2 ?zn2 ?zhT ?zm3 ?zn3 ?zhG ?zn4 ?zn5 ?zm4 ?zn6 ?zw1 ?zw2 ?zv1 ?zv2 ?zp0 ?zp1 ?zp2 ?zkd ?zku ?_; (case zk1 => k_asm); (case zk2 => k_asm); (case zk3 => k_asm); (case zk4 => k_asm); (case zk5 => k_asm); (case zk6 => exact rfl); (case zm1 => k_mem); (case zm2 => k_mem); (case zhT => assumption); (case zm3 => k_mem); (case zm0 => k_mem); (case zhM => with_reducible assumption); (case zloM => with_reducible assumption); (case zU => k_updF); (case zhD => with_reducible assumption); (case zloD => with_reducible assumption); (case zhv => exact hJ1.none _ (by omega)); (case zhl => (have hl9 := hJ1.elen); omega); (case zhG => (refine ⟨?zga, ?zgb, ?zgc, ?_, ?_, ?_, ?_⟩; (case zga => k_mem); (case zgb => k_mem); (case zgc => assumption); all_goals omega)); (case zm4 => k_mem); (case zn0 => k_ne); (case zn1 => k_ne); (case zn2 => k_ne); (case zn3 => k_ne); (case zn4 => k_ne); (case zn5 => k_ne); (case zn6 => k_ne); (case zw1 => omega); (case zw2 => omega); (case zv1 => exact fmod_lo _ (kbt_pos _)); (case zv2 => exact fmod_hi _ (kbt_pos _)); (case zp0 => omega); (case zp1 => omega); (case zp2 => omega); (case zkd => ktr_room); (case zku => ktr_units); k_whole; intro y9 oD9 u91 u92 u93 h9 tk9 hD9 F9 N9 l9; (try dsimp only at N9); (try k_lt l9); (try dsimp only); (try k_sweep); (try k_fold)); all_goals k_steps) | ((with_reducible show wpAny _ _ (call (Value.ref 669) [Value.ref _, Value.int _ _, Value.int _ _, Value.int _ _, Value.ref _]) _ _ _); (with_reducible rename SetFOk _ _ _ => hC1); k_dflt ( refine' SetFOk.use hC1 ?zk1 ?zk2 ?zk3 ?zk4 ?zk5 ?zk6 ?zU ?zhM ?zloM ?zm1 ?zn1 ?zm2 ?zn2 ?zhT ?zm3 ?zn3 ?zhG ?zn4 ?zn5 ?zm4 ?zn6 ?zw1 ?zw2 ?zv1 ?zv2 ?zp0 ?zp1 ?zp2 ?zkd ?zku ?_; (case zk1 => k_asm); (case zk2 => k_asm); (case zk3 => k_asm); (case zk4 => k_asm); (case zk5 => k_asm); (case zk6 => exact rfl); (case zm1 => k_mem); (case zm2 => k_mem); (case zhT => first | assumption | exact ⟨by k_get, by k_get, by k_get, by k_get⟩); (case zm3 => k_mem); (case zU => k_updF); (case zhM => with_reducible assumption); (case zloM => with_reducible assumption); (case zhG => (refine ⟨?zga, ?zgb, ?zgc, ?_, ?_, ?_, ?_⟩; (case zga => k_mem); (case zgb => k_mem); (case zgc => first | assumption | exact ⟨⟨_, by k_get⟩, ⟨_, by k_get⟩, ⟨_, by k_get⟩, ⟨_, by k_get⟩, by k_get, by k_get, by k_get⟩); all_goals omega)); (case zm4 => k_mem); (case zn1 => k_ne); (case zn2 => k_ne); (case zn3 => k_ne); (case zn4 => k_ne); (case zn5 => k_ne); (case zn6 => k_ne); (case zw1 => omega); (case zw2 => omega); (case zv1 => exact fmod_lo _ (kbt_pos _)); (case zv2 => exact fmod_hi _ (kbt_pos _)); (case zp0 => omega); (case zp1 => omega); (case zp2 => omega); (case zkd => ktr_room); (case zku => ktr_units); k_whole; intro D9 y9 oM9 oD9 u91 u92 u93 h9 tk9 hM9 hD9 lo9 F9 N9 l9 l9b; (try dsimp only at N9); (try k_lt l9); (try k_lt2 l9b); (try dsimp only); (try k_sweep); (try k_fold)); all_goals k_steps)))
    · refine Halt.on (JoinI.of ?_ rfl); rw [hLx, if_pos (by assumption)]
    · refine Halt.on (JoinI.of ?_ rfl); rw [hLx, if_neg (by assumption)]
  intro tL kL
  (try dsimp only)
  (k_steps; repeat' (refine Halt.on ?_; first | ((with_reducible show wpAny _ _ (call (Value.ref 733) [Value.ref _, Value.int _ _]) _ _ _); (with_reducible rename MoldOk _ _ _ => hC733); k_dflt (refine' ClayC.use (hC733 _ _ _ _ _ _) ?zk1 ?zk2 ?zk3 ?zk4 ?zk5 ?zkK ?zkU ?zkI ?zkl ?zkp ?zkd ?zku ?_; (case zk1 => k_asm); (case zk2 => k_asm); (case zk3 => k_asm); (case zk4 => k_asm); (case zk5 => k_asm); (case zkK => first | exact rfl | assumption); (case zkU => k_updF); (case zkI => with_reducible assumption); (case zkl => first | assumption | omega); (case zkp => first | decide | omega | exact kbt_pos _); (case zkd => ktr_room); (case zku => ktr_units); k_whole; intro v9 h9 tk9 vs9 ns9 n9 hv9 hI9 hl9 F9 N9; obtain ⟨r9, t9, e9, hr0, hr1⟩ := hv9; subst e9; (try dsimp only at N9); (try dsimp only); (try k_sweep); (try k_fold)); all_goals k_steps) | ((with_reducible show wpAny _ _ (call (Value.ref 740) [Value.ref _, Value.int _ _, Value.int _ _]) _ _ _); (with_reducible rename IndexOk _ _ _ => hC740); k_dflt (refine' IdxC.use (hC740 _ _ _ _ _ _ _ _) ?zk1 ?zk2 ?zk3 ?zk4 ?zk5 ?zkK ?zkU ?zkI ?zkl ?zkp ?zkd ?zku ?_; (case zk1 => k_asm); (case zk2 => k_asm); (case zk3 => k_asm); (case zk4 => k_asm); (case zk5 => k_asm); (case zkK => first | exact rfl | assumption); (case zkU => k_updF); (case zkI => with_reducible assumption); (case zkl => first | assumption | omega); (case zkp => (refine ⟨?_, ?_, ?_, ?_⟩; all_goals (first | omega | decide))); (case zkd => ktr_room); (case zku => ktr_units); k_whole; intro T9 e9 fig9 unk9 sg9 v9 ta9 tb9 tc9 td9 h9 tk9 vs9 ns9 n9 hf1 hf2 hV9 hI9 hl9 F9 N9 l9 l9b; (try k_lt l9); (try k_lt2 l9b); (try dsimp only at N9); (try dsimp only); (try k_sweep); (try k_fold)); all_goals k_steps) | ((with_reducible show wpAny _ _ (call (Value.ref 669) [Value.ref _, Value.int _ _, Value.int _ _, Value.int _ _, Value.ref _]) _ _ _); (with_reducible rename MInv _ _ _ _ _ _ _ _ => hJ1); (with_reducible rename SetLOk _ _ _ => hC1); k_dflt ( refine' SetLOk.use hC1 ?zk1 ?zk2 ?zk3 ?zk4 ?zk5 ?zk6 ?zU ?zm0 ?zn0 ?zhM ?zloM ?zhD ?zloD ?zhv ?zhl ?zm1 ?zn1 ?zm2 ?zn2 ?zhT ?zm3 ?zn3 ?zhG ?zn4 ?zn5 ?zm4 ?zn6 ?zw1 ?zw2 ?zv1 ?zv2 ?zp0 ?zp1 ?zp2 ?zkd ?zku ?_; (case zk1 => k_asm); (case zk2 => k_asm); (case zk3 => k_asm); (case zk4 => k_asm); (case zk5 => k_asm); (case zk6 => exact rfl); (case zm1 => k_mem); (case zm2 => k_mem); (case zhT => assumption); (case zm3 => k_mem); (case zm0 => k_mem); (case zhM => with_reducible assumption); (case zloM => with_reducible assumption); (case zU => k_updF); (case zhD => with_reducible assumption); (case zloD => with_reducible assumption); (case zhv => exact hJ1.none _ (by omega)); (case zhl => (have hl9 := hJ1.elen); omega); (case zhG => (refine ⟨?zga, ?zgb, ?zgc, ?_, ?_, ?_, ?_⟩; (case zga => k_mem); (case zgb => k_mem); (case zgc => assumption); all_goals omega)); (case zm4 => k_mem); (case zn0 => k_ne); (case zn1 => k_ne); (case zn2 => k_ne); (case zn3 => k_ne); (case zn4 => k_ne); (case zn5 => k_ne); (case zn6 => k_ne); (case zw1 => omega); (case zw2 => omega); (case zv1 => exact fmod_lo _ (kbt_pos _)); (case zv2 => exact fmod_hi _ (kbt_pos _)); (case zp0 => omega); (case zp1 => omega); (case zp2 => omega); (case zkd => ktr_room); (case zku => ktr_units); k_whole; intro y9 oD9 u91 u92 u93 h9 tk9 hD9 F9 N9 l9; (try dsimp only at N9); (try k_lt l9); (try dsimp only); (try k_sweep); (try k_fold)); all_goals k_steps) | ((with_reducible show wpAny _ _ (call (Value.ref 669) [Value.ref _, Value.int _ _, Value.int _ _, Value.int _ _, Value.ref _]) _ _ _); (with_reducible rename SetFOk _ _ _ => hC1); k_dflt ( refine' SetFOk.use hC1 ?zk1 ?zk2 ?zk3 ?zk4 ?zk5 ?zk6 ?zU ?zhM ?zloM ?zm1 ?zn1 ?zm2 ?zn2 ?zhT ?zm3 ?zn3 ?zhG ?zn4 ?zn5 ?zm4 ?zn6 ?zw1 ?zw2 ?zv1 ?zv2 ?zp0 ?zp1 ?zp2 ?zkd ?zku ?_; (case zk1 => k_asm); (case zk2 => k_asm); (case zk3 => k_asm); (case zk4 => k_asm); (case zk5 => k_asm); (case zk6 => exact rfl); (case zm1 => k_mem); (case zm2 => k_mem); (case zhT => first | assumption | exact ⟨by k_get, by k_get, by k_get, by k_get⟩); (case zm3 => k_mem); (case zU => k_updF); (case zhM => with_reducible assumption); (case zloM => with_reducible assumption); (case zhG => (refine ⟨?zga, ?zgb, ?zgc, ?_, ?_, ?_, ?_⟩; (case zga => k_mem); (case zgb => k_mem); (case zgc => first | assumption | exact ⟨⟨_, by k_get⟩, ⟨_, by k_get⟩, ⟨_, by k_get⟩, ⟨_, by k_get⟩, by k_get, by k_get, by k_get⟩); all_goals omega)); (case zm4 => k_mem); (case zn1 => k_ne); (case zn2 => k_ne); (case zn3 => k_ne); (case zn4 => k_ne); (case zn5 => k_ne); (case zn6 => k_ne); (case zw1 => omega); (case zw2 => omega); (case zv1 => exact fmod_lo _ (kbt_pos _)); (case zv2 => exact fmod_hi _ (kbt_pos _)); (case zp0 => omega); (case zp1 => omega); (case zp2 => omega); (case zkd => ktr_room); (case zku => ktr_units); k_whole; intro D9 y9 oM9 oD9 u91 u92 u93 h9 tk9 hM9 hD9 lo9 F9 N9 l9 l9b; (try dsimp only at N9); (try k_lt l9); (try k_lt2 l9b); (try dsimp only); (try k_sweep); (try k_fold)); all_goals k_steps)))
  (rename News _ _ _ _ => hN); (rename Fr _ _ _ _ => hF)
  obtain ⟨l, eq⟩ : ∃ x, x = nthA (ledOf hN) 0 := ⟨_, rfl⟩; (dsimp only [nthA, ledOf] at eq); subst eq
  obtain ⟨M, eq⟩ : ∃ x, x = nthA (ledOf hN) 1 := ⟨_, rfl⟩; (dsimp only [nthA, ledOf] at eq); subst eq
  obtain ⟨st, eq⟩ : ∃ x, x = nthA (ledOf hN) 3 := ⟨_, rfl⟩; (dsimp only [nthA, ledOf] at eq); subst eq
  obtain ⟨dst, eq⟩ : ∃ x, x = nthA (ledOf hN) 4 := ⟨_, rfl⟩; (dsimp only [nthA, ledOf] at eq); subst eq
  have hN2 : News _ _ _ ((l, _) :: (c, _) :: (M, _) :: (st, instObj 672 dst) :: (dst, _) :: (S, listOf #[.ref sig] 1) :: (sig, _) :: (dsig, _) :: news) := dropTo hN (subC (by k_mem) (subC (by k_mem) (subC (by k_mem) (subC (by k_mem) (subC (by k_mem) (subC (by k_mem) (subC (by k_mem) (subC (by k_mem) (fun p hp => by repeat (first | exact hp | refine List.Mem.tail _ ?_)))))))))) 
  have hOrd : MOrd c S dsig sig dst st M l news := ⟨by omega, by omega, by omega, by omega, by omega, by omega, by omega, allLt_up o6 (by omega)⟩
  have hBd := mbd_of (by assumption) hw1 (by assumption) hn1 (by assumption) hl1 hFx hLx
  have hC0 := MCtx.mk (w := w) (c := c) (l := l) (M := M) (st := st) (dst := dst) (S := S) (sig := sig) (dsig := dsig) (news := news) hF hN2
      ⟨rfl, ⟨_, rfl⟩, ⟨_, rfl⟩, rfl, ⟨_, rfl⟩, rfl, rfl⟩ (by with_reducible assumption) (by with_reducible assumption) ⟨by k_get, by k_get, by k_get, by k_get⟩ ⟨⟨_, by k_get⟩, ⟨_, by k_get⟩, ⟨_, by k_get⟩, ⟨_, by k_get⟩, by k_get, by k_get, by k_get⟩
      hIa hLb hOrd hBd
  have hC := MCtx.ex hC0
  have hC2 := Hid.mk hC; clear hC hC0 hBd hOrd hN2 hFx hLx
  ((repeat (rename _ ∧ _ => hz; clear hz)); (repeat (rename (_ : Nat) < _ => hz; clear hz)); (repeat (rename AllLt _ _ => hz; clear hz)); (repeat (rename PySem.Obj.IsDictOf _ _ _ => hz; clear hz)); (repeat (rename PyProof.V.FlatPairs _ _ _ => hz; clear hz)); (repeat (rename IntsAre _ _ => hz; clear hz)); (repeat (rename Fr _ _ _ _ => hz; clear hz)); (repeat (rename News _ _ _ _ => hz; clear hz)); (repeat (rename ((_ == sysModules) = false) => hz; clear hz)); (repeat (rename List.length _ ≤ _ => hz; clear hz)))
  ((repeat (rename (_ : Int) < _ => hz; clear hz)); (repeat (rename (_ : Int) ≤ _ => hz; clear hz)))
  have hd := hd'.out; have hu := hu'.out; have FG1 := FG2.out
  have hC := hC2.out; clear hC2
  obtain ⟨m1, oM, esT, esS, nT, nS, nSl, nl, nc, W, low, size, F, Lt, bf, vs1, ns1, ⟨cF, cN, ⟨jn1, ⟨tlo, jn2⟩, ⟨tsz, jn3⟩, jn4, ⟨twi, jn5⟩, jn6, jn7⟩, hM, loM, hT, hS, hIa, hLb, ⟨o1, o2, o3, o4, o5, o6, o7, oal⟩, hB⟩⟩ := hC
  obtain ⟨bw1, bw2, bl1, bl2, bs1, bs2, bf1, bf2⟩ := hB
  obtain ⟨bF1, bF2, bF3, bF4, bF5, bF6⟩ := ff_of bl1 bl2 bs1 bs2 bf1 bf2
  have all_l : AllLt l news := allLt_up oal (by omega)
  have all_M : AllLt M news := allLt_up oal (by omega)
  have hT2 := hT; obtain ⟨eT1, eT2, eT3, eT4⟩ := hT2
  have hMk : MMark := ⟨trivial⟩
  refine Halt.on ?_
  (rename Fr _ _ _ _ => lF'); (with_unfolding_all refine' For_invVF lF' ?zk1 ?zk2 ?_; (case zk1 => exact rfl); (case zk2 => exact rfl))
  (k_steps; repeat' (refine Halt.on ?_; first | ((with_reducible show wpAny _ _ (call (Value.ref 733) [Value.ref _, Value.int _ _]) _ _ _); (with_reducible rename MoldOk _ _ _ => hC733); k_dflt (refine' ClayC.use (hC733 _ _ _ _ _ _) ?zk1 ?zk2 ?zk3 ?zk4 ?zk5 ?zkK ?zkU ?zkI ?zkl ?zkp ?zkd ?zku ?_; (case zk1 => k_asm); (case zk2 => k_asm); (case zk3 => k_asm); (case zk4 => k_asm); (case zk5 => k_asm); (case zkK => first | exact rfl | assumption); (case zkU => k_updF); (case zkI => with_reducible assumption); (case zkl => first | assumption | omega); (case zkp => first | decide | omega | exact kbt_pos _); (case zkd => ktr_room); (case zku => ktr_units); k_whole; intro v9 h9 tk9 vs9 ns9 n9 hv9 hI9 hl9 F9 N9; obtain ⟨r9, t9, e9, hr0, hr1⟩ := hv9; subst e9; (try dsimp only at N9); (try dsimp only); (try k_sweep); (try k_fold)); all_goals k_steps) | ((with_reducible show wpAny _ _ (call (Value.ref 740) [Value.ref _, Value.int _ _, Value.int _ _]) _ _ _); (with_reducible rename IndexOk _ _ _ => hC740); k_dflt (refine' IdxC.use (hC740 _ _ _ _ _ _ _ _) ?zk1 ?zk2 ?zk3 ?zk4 ?zk5 ?zkK ?zkU ?zkI ?zkl ?zkp ?zkd ?zku ?_; (case zk1 => k_asm); (case zk2 => k_asm); (case zk3 => k_asm); (case zk4 => k_asm); (case zk5 => k_asm); (case zkK => first | exact rfl | assumption); (case zkU => k_updF); (case zkI => with_reducible assumption); (case zkl => first | assumption | omega); (case zkp => (refine ⟨?_, ?_, ?_, ?_⟩; all_goals (first | omega | decide))); (case zkd => ktr_room); (case zku => ktr_units); k_whole; intro T9 e9 fig9 unk9 sg9 v9 ta9 tb9 tc9 td9 h9 tk9 vs9 ns9 n9 hf1 hf2 hV9 hI9 hl9 F9 N9 l9 l9b; (try k_lt l9); (try k_lt2 l9b); (try dsimp only at N9); (try dsimp only); (try k_sweep); (try k_fold)); all_goals k_steps) | ((with_reducible show wpAny _ _ (call (Value.ref 669) [Value.ref _, Value.int _ _, Value.int _ _, Value.int _ _, Value.ref _]) _ _ _); (with_reducible rename MInv _ _ _ _ _ _ _ _ => hJ1); (with_reducible rename SetLOk _ _ _ => hC1); k_dflt ( refine' SetLOk.use hC1 ?zk1 ?zk2 ?zk3 ?zk4 ?zk5 ?zk6 ?zU ?zm0 ?zn0 ?zhM ?zloM ?zhD ?zloD ?zhv ?zhl ?zm1 ?zn1 ?zm2 ?zn2 ?zhT ?zm3 ?zn3 ?zhG ?zn4 ?zn5 ?zm4 ?zn6 ?zw1 ?zw2 ?zv1 ?zv2 ?zp0 ?zp1 ?zp2 ?zkd ?zku ?_; (case zk1 => k_asm); (case zk2 => k_asm); (case zk3 => k_asm); (case zk4 => k_asm); (case zk5 => k_asm); (case zk6 => exact rfl); (case zm1 => k_mem); (case zm2 => k_mem); (case zhT => assumption); (case zm3 => k_mem); (case zm0 => k_mem); (case zhM => with_reducible assumption); (case zloM => with_reducible assumption); (case zU => k_updF); (case zhD => with_reducible assumption); (case zloD => with_reducible assumption); (case zhv => exact hJ1.none _ (by omega)); (case zhl => (have hl9 := hJ1.elen); omega); (case zhG => (refine ⟨?zga, ?zgb, ?zgc, ?_, ?_, ?_, ?_⟩; (case zga => k_mem); (case zgb => k_mem); (case zgc => assumption); all_goals omega)); (case zm4 => k_mem); (case zn0 => k_ne); (case zn1 => k_ne); (case zn2 => k_ne); (case zn3 => k_ne); (case zn4 => k_ne); (case zn5 => k_ne); (case zn6 => k_ne); (case zw1 => omega); (case zw2 => omega); (case zv1 => exact fmod_lo _ (kbt_pos _)); (case zv2 => exact fmod_hi _ (kbt_pos _)); (case zp0 => omega); (case zp1 => omega); (case zp2 => omega); (case zkd => ktr_room); (case zku => ktr_units); k_whole; intro y9 oD9 u91 u92 u93 h9 tk9 hD9 F9 N9 l9; (try dsimp only at N9); (try k_lt l9); (try dsimp only); (try k_sweep); (try k_fold)); all_goals k_steps) | ((with_reducible show wpAny _ _ (call (Value.ref 669) [Value.ref _, Value.int _ _, Value.int _ _, Value.int _ _, Value.ref _]) _ _ _); (with_reducible rename SetFOk _ _ _ => hC1); k_dflt ( refine' SetFOk.use hC1 ?zk1 ?zk2 ?zk3 ?zk4 ?zk5 ?zk6 ?zU ?zhM ?zloM ?zm1 ?zn1 ?zm2 ?zn2 ?zhT ?zm3 ?zn3 ?zhG ?zn4 ?zn5 ?zm4 ?zn6 ?zw1 ?zw2 ?zv1 ?zv2 ?zp0 ?zp1 ?zp2 ?zkd ?zku ?_; (case zk1 => k_asm); (case zk2 => k_asm); (case zk3 => k_asm); (case zk4 => k_asm); (case zk5 => k_asm); (case zk6 => exact rfl); (case zm1 => k_mem); (case zm2 => k_mem); (case zhT => first | assumption | exact ⟨by k_get, by k_get, by k_get, by k_get⟩); (case zm3 => k_mem); (case zU => k_updF); (case zhM => with_reducible assumption); (case zloM => with_reducible assumption); (case zhG => (refine ⟨?zga, ?zgb, ?zgc, ?_, ?_, ?_, ?_⟩; (case zga => k_mem); (case zgb => k_mem); (case zgc => first | assumption | exact ⟨⟨_, by k_get⟩, ⟨_, by k_get⟩, ⟨_, by k_get⟩, ⟨_, by k_get⟩, by k_get, by k_get, by k_get⟩); all_goals omega)); (case zm4 => k_mem); (case zn1 => k_ne); (case zn2 => k_ne); (case zn3 => k_ne); (case zn4 => k_ne); (case zn5 => k_ne); (case zn6 => k_ne); (case zw1 => omega); (case zw2 => omega); (case zv1 => exact fmod_lo _ (kbt_pos _)); (case zv2 => exact fmod_hi _ (kbt_pos _)); (case zp0 => omega); (case zp1 => omega); (case zp2 => omega); (case zkd => ktr_room); (case zku => ktr_units); k_whole; intro D9 y9 oM9 oD9 u91 u92 u93 h9 tk9 hM9 hD9 lo9 F9 N9 l9 l9b; (try dsimp only at N9); (try k_lt l9); (try k_lt2 l9b); (try dsimp only); (try k_sweep); (try k_fold)); all_goals k_steps)))
  refine Halt.on ?_
  (rename Fr _ _ _ _ => lF'); (rename News _ _ _ _ => lN'); (rename IsRange _ _ _ _ _ _ _ _ => rgX)
  (with_unfolding_all refine iter_rangeUnr (n := (size - 1).toNat + 1) (by rfl) rgX (by exact small_one (by omega) (by omega) (by omega) (by omega)) (by exact (rangeSize_nat _ _).trans (by omega)) lF' lN' ?_); clear lF' lN'; intro I lI; (try k_lt lI)
  (k_steps; repeat' (refine Halt.on ?_; first | ((with_reducible show wpAny _ _ (call (Value.ref 733) [Value.ref _, Value.int _ _]) _ _ _); (with_reducible rename MoldOk _ _ _ => hC733); k_dflt (refine' ClayC.use (hC733 _ _ _ _ _ _) ?zk1 ?zk2 ?zk3 ?zk4 ?zk5 ?zkK ?zkU ?zkI ?zkl ?zkp ?zkd ?zku ?_; (case zk1 => k_asm); (case zk2 => k_asm); (case zk3 => k_asm); (case zk4 => k_asm); (case zk5 => k_asm); (case zkK => first | exact rfl | assumption); (case zkU => k_updF); (case zkI => with_reducible assumption); (case zkl => first | assumption | omega); (case zkp => first | decide | omega | exact kbt_pos _); (case zkd => ktr_room); (case zku => ktr_units); k_whole; intro v9 h9 tk9 vs9 ns9 n9 hv9 hI9 hl9 F9 N9; obtain ⟨r9, t9, e9, hr0, hr1⟩ := hv9; subst e9; (try dsimp only at N9); (try dsimp only); (try k_sweep); (try k_fold)); all_goals k_steps) | ((with_reducible show wpAny _ _ (call (Value.ref 740) [Value.ref _, Value.int _ _, Value.int _ _]) _ _ _); (with_reducible rename IndexOk _ _ _ => hC740); k_dflt (refine' IdxC.use (hC740 _ _ _ _ _ _ _ _) ?zk1 ?zk2 ?zk3 ?zk4 ?zk5 ?zkK ?zkU ?zkI ?zkl ?zkp ?zkd ?zku ?_; (case zk1 => k_asm); (case zk2 => k_asm); (case zk3 => k_asm); (case zk4 => k_asm); (case zk5 => k_asm); (case zkK => first | exact rfl | assumption); (case zkU => k_updF); (case zkI => with_reducible assumption); (case zkl => first | assumption | omega); (case zkp => (refine ⟨?_, ?_, ?_, ?_⟩; all_goals (first | omega | decide))); (case zkd => ktr_room); (case zku => ktr_units); k_whole; intro T9 e9 fig9 unk9 sg9 v9 ta9 tb9 tc9 td9 h9 tk9 vs9 ns9 n9 hf1 hf2 hV9 hI9 hl9 F9 N9 l9 l9b; (try k_lt l9); (try k_lt2 l9b); (try dsimp only at N9); (try dsimp only); (try k_sweep); (try k_fold)); all_goals k_steps) | ((with_reducible show wpAny _ _ (call (Value.ref 669) [Value.ref _, Value.int _ _, Value.int _ _, Value.int _ _, Value.ref _]) _ _ _); (with_reducible rename MInv _ _ _ _ _ _ _ _ => hJ1); (with_reducible rename SetLOk _ _ _ => hC1); k_dflt ( refine' SetLOk.use hC1 ?zk1 ?zk2 ?zk3 ?zk4 ?zk5 ?zk6 ?zU ?zm0 ?zn0 ?zhM ?zloM ?zhD ?zloD ?zhv ?zhl ?zm1 ?zn1 ?zm2 ?zn2 ?zhT ?zm3 ?zn3 ?zhG ?zn4 ?zn5 ?zm4 ?zn6 ?zw1 ?zw2 ?zv1 ?zv2 ?zp0 ?zp1 ?zp2 ?zkd ?zku ?_; (case zk1 => k_asm); (case zk2 => k_asm); (case zk3 => k_asm); (case zk4 => k_asm); (case zk5 => k_asm); (case zk6 => exact rfl); (case zm1 => k_mem); (case zm2 => k_mem); (case zhT => assumption); (case zm3 => k_mem); (case zm0 => k_mem); (case zhM => with_reducible assumption); (case zloM => with_reducible assumption); (case zU => k_updF); (case zhD => with_reducible assumption); (case zloD => with_reducible assumption); (case zhv => exact hJ1.none _ (by omega)); (case zhl => (have hl9 := hJ1.elen); omega); (case zhG => (refine ⟨?zga, ?zgb, ?zgc, ?_, ?_, ?_, ?_⟩; (case zga => k_mem); (case zgb => k_mem); (case zgc => assumption); all_goals omega)); (case zm4 => k_mem); (case zn0 => k_ne); (case zn1 => k_ne); (case zn2 => k_ne); (case zn3 => k_ne); (case zn4 => k_ne); (case zn5 => k_ne); (case zn6 => k_ne); (case zw1 => omega); (case zw2 => omega); (case zv1 => exact fmod_lo _ (kbt_pos _)); (case zv2 => exact fmod_hi _ (kbt_pos _)); (case zp0 => omega); (case zp1 => omega); (case zp2 => omega); (case zkd => ktr_room); (case zku => ktr_units); k_whole; intro y9 oD9 u91 u92 u93 h9 tk9 hD9 F9 N9 l9; (try dsimp only at N9); (try k_lt l9); (try dsimp only); (try k_sweep); (try k_fold)); all_goals k_steps) | ((with_reducible show wpAny _ _ (call (Value.ref 669) [Value.ref _, Value.int _ _, Value.int _ _, Value.int _ _, Value.ref _]) _ _ _); (with_reducible rename SetFOk _ _ _ => hC1); k_dflt ( refine' SetFOk.use hC1 ?zk1 ?zk2 ?zk3 ?zk4 ?zk5 ?zk6 ?zU ?zhM ?zloM ?zm1 ?zn1 ?zm2 ?zn2 ?zhT ?zm3 ?zn3 ?zhG ?zn4 ?zn5 ?zm4 ?zn6 ?zw1 ?zw2 ?zv1 ?zv2 ?zp0 ?zp1 ?zp2 ?zkd ?zku ?_; (case zk1 => k_asm); (case zk2 => k_asm); (case zk3 => k_asm); (case zk4 => k_asm); (case zk5 => k_asm); (case zk6 => exact rfl); (case zm1 => k_mem); (case zm2 => k_mem); (case zhT => first | assumption | exact ⟨by k_get, by k_get, by k_get, by k_get⟩); (case zm3 => k_mem); (case zU => k_updF); (case zhM => with_reducible assumption); (case zloM => with_reducible assumption); (case zhG => (refine ⟨?zga, ?zgb, ?zgc, ?_, ?_, ?_, ?_⟩; (case zga => k_mem); (case zgb => k_mem); (case zgc => first | assumption | exact ⟨⟨_, by k_get⟩, ⟨_, by k_get⟩, ⟨_, by k_get⟩, ⟨_, by k_get⟩, by k_get, by k_get, by k_get⟩); all_goals omega)); (case zm4 => k_mem); (case zn1 => k_ne); (case zn2 => k_ne); (case zn3 => k_ne); (case zn4 => k_ne); (case zn5 => k_ne); (case zn6 => k_ne); (case zw1 => omega); (case zw2 => omega); (case zv1 => exact fmod_lo _ (kbt_pos _)); (case zv2 => exact fmod_hi _ (kbt_pos _)); (case zp0 => omega); (case zp1 => omega); (case zp2 => omega); (case zkd => ktr_room); (case zku => ktr_units); k_whole; intro D9 y9 oM9 oD9 u91 u92 u93 h9 tk9 hM9 hD9 lo9 F9 N9 l9 l9b; (try dsimp only at N9); (try k_lt l9); (try k_lt2 l9b); (try dsimp only); (try k_sweep); (try k_fold)); all_goals k_steps)))
  refine Halt.on ?_
  (rename News _ _ _ _ => hN)
  obtain ⟨D1, eq⟩ : ∃ x, x = nthA (ledOf hN) 0 := ⟨_, rfl⟩; (dsimp only [nthA, ledOf] at eq); subst eq
  obtain ⟨y1, eq⟩ : ∃ x, x = nthA (ledOf hN) 1 := ⟨_, rfl⟩; (dsimp only [nthA, ledOf] at eq); subst eq
  obtain ⟨x1, eq⟩ : ∃ x, x = nthA (ledOf hN) 2 := ⟨_, rfl⟩; (dsimp only [nthA, ledOf] at eq); subst eq
  have oD1 : LT.lt (α := Nat) I D1 := by (refine ltN ?_; omega)
  have all_D : AllLt D1 news := allLt_up oal (by (refine ltN ?_; omega))
  have all_I : AllLt I news := allLt_up oal (by (refine ltN ?_; omega))
  refine' UnrEnd.intro (by k_asm) (by k_asm) _ ?zsub ?zoff (range_ind (fun i m news' => JMem w news l c M st dst S sig dsig I W F Lt low size bf i m news') ?zturn ?zfin _ _ _ _ ?zhi ?zhJ)
  (case zhi => omega)
  case' zhJ => refine' ⟨_, _, _, _, _, _, _, _, _, _, [(0 + ((0 : Nat) : Int), Value.ref _)], #[].push (Value.ref _), _, _, (y1, wordT _ _ _ _ _) :: (x1, wordT _ _ _ _ _) :: news, _, _, _, ⟨jn1, ⟨_, jn2⟩, ⟨_, jn3⟩, jn4, ⟨_, jn5⟩, jn6, jn7⟩, ?zinv, ?zfac, rfl⟩
  (case zinv => exact MInv.next (MInv.zero (tail := news) (f := fun _ => 0) (g := fun _ => 0) (av := fun _ => 0)) (List.Mem.tail _ (List.Mem.head _)) (List.Mem.head _) (fun p hp => .tail _ (.tail _ hp)))
  (case zsub => exact subC (by k_mem) (subC (by k_mem) (subC (by k_mem) (subC (by k_mem) (subC (by k_mem) (subC (by k_mem) (subC (by k_mem) (subC (by k_mem) (subC (by k_mem) (subC (by k_mem) (subC (by k_mem) (subC (by k_mem) (fun p hp => by repeat (first | exact hp | refine List.Mem.tail _ ?_))))))))))))))
  case' zfac => refine' ⟨?zf1, ?zf2, ?zf3, ?zf4, ?zf5, ?zf6, ?zf7, ?zf8, ?zf9, ?zf10, ?zf11, ?zf12, fun p hp => .tail _ (.tail _ hp)⟩
  (case zf1 => with_reducible assumption)
  (case zf2 => with_reducible assumption)
  (case zf3 => with_reducible assumption)
  (case zf4 => exact hT)
  (case zf5 => exact hS)
  (case zf6 => with_reducible assumption)
  (case zf7 => with_reducible assumption)
  (case zf8 => exact oD1)
  (case zf9 => exact ne_cons (by k_ne) (ne_cons (by k_ne) (ne_lt all_l)))
  (case zf10 => exact ne_cons (by k_ne) (ne_cons (by k_ne) hne))
  (case zf11 => exact ne_cons (by k_ne) (ne_cons (by k_ne) (ne_lt all_D)))
  (case zf12 => exact ne_cons (by k_ne) (ne_cons (by k_ne) (ne_lt all_I)))
  (case zoff => (iterate 11 (refine ne_cons (by k_ne) ?_)); exact ne_lt all_I)
  · intro i m' news' hi hJ t h' tk Fm' N'
    obtain ⟨D, oM, oD, esT, esS, nT, nS, nSl, nl, nc, es, ws, vs', ns', tail, f, g, av, ⟨j1, ⟨ja, j2⟩, ⟨jb, j3⟩, j4, ⟨jc, j5⟩, j6, j7⟩, hinv, ⟨b1, b2, b3, b4, b5, b6, b7, b8, b9, b10, b11, b12, b13⟩, rfl⟩ := hJ
    have b4' := b4; obtain ⟨eT1, eT2, eT3, eT4⟩ := b4'
    (k_steps; repeat' (refine Halt.on ?_; first | ((with_reducible show wpAny _ _ (call (Value.ref 733) [Value.ref _, Value.int _ _]) _ _ _); (with_reducible rename MoldOk _ _ _ => hC733); k_dflt (refine' ClayC.use (hC733 _ _ _ _ _ _) ?zk1 ?zk2 ?zk3 ?zk4 ?zk5 ?zkK ?zkU ?zkI ?zkl ?zkp ?zkd ?zku ?_; (case zk1 => k_asm); (case zk2 => k_asm); (case zk3 => k_asm); (case zk4 => k_asm); (case zk5 => k_asm); (case zkK => first | exact rfl | assumption); (case zkU => k_updF); (case zkI => with_reducible assumption); (case zkl => first | assumption | omega); (case zkp => first | decide | omega | exact kbt_pos _); (case zkd => ktr_room); (case zku => ktr_units); k_whole; intro v9 h9 tk9 vs9 ns9 n9 hv9 hI9 hl9 F9 N9; obtain ⟨r9, t9, e9, hr0, hr1⟩ := hv9; subst e9; (try dsimp only at N9); (try dsimp only); (try k_sweep); (try k_fold)); all_goals k_steps) | ((with_reducible show wpAny _ _ (call (Value.ref 740) [Value.ref _, Value.int _ _, Value.int _ _]) _ _ _); (with_reducible rename IndexOk _ _ _ => hC740); k_dflt (refine' IdxC.use (hC740 _ _ _ _ _ _ _ _) ?zk1 ?zk2 ?zk3 ?zk4 ?zk5 ?zkK ?zkU ?zkI ?zkl ?zkp ?zkd ?zku ?_; (case zk1 => k_asm); (case zk2 => k_asm); (case zk3 => k_asm); (case zk4 => k_asm); (case zk5 => k_asm); (case zkK => first | exact rfl | assumption); (case zkU => k_updF); (case zkI => with_reducible assumption); (case zkl => first | assumption | omega); (case zkp => (refine ⟨?_, ?_, ?_, ?_⟩; all_goals (first | omega | decide))); (case zkd => ktr_room); (case zku => ktr_units); k_whole; intro T9 e9 fig9 unk9 sg9 v9 ta9 tb9 tc9 td9 h9 tk9 vs9 ns9 n9 hf1 hf2 hV9 hI9 hl9 F9 N9 l9 l9b; (try k_lt l9); (try k_lt2 l9b); (try dsimp only at N9); (try dsimp only); (try k_sweep); (try k_fold)); all_goals k_steps) | ((with_reducible show wpAny _ _ (call (Value.ref 669) [Value.ref _, Value.int _ _, Value.int _ _, Value.int _ _, Value.ref _]) _ _ _); (with_reducible rename MInv _ _ _ _ _ _ _ _ => hJ1); (with_reducible rename SetLOk _ _ _ => hC1); k_dflt ( refine' SetLOk.use hC1 ?zk1 ?zk2 ?zk3 ?zk4 ?zk5 ?zk6 ?zU ?zm0 ?zn0 ?zhM ?zloM ?zhD ?zloD ?zhv ?zhl ?zm1 ?zn1 ?zm2 ?zn2 ?zhT ?zm3 ?zn3 ?zhG ?zn4 ?zn5 ?zm4 ?zn6 ?zw1 ?zw2 ?zv1 ?zv2 ?zp0 ?zp1 ?zp2 ?zkd ?zku ?_; (case zk1 => k_asm); (case zk2 => k_asm); (case zk3 => k_asm); (case zk4 => k_asm); (case zk5 => k_asm); (case zk6 => exact rfl); (case zm1 => k_mem); (case zm2 => k_mem); (case zhT => assumption); (case zm3 => k_mem); (case zm0 => k_mem); (case zhM => with_reducible assumption); (case zloM => with_reducible assumption); (case zU => k_updF); (case zhD => with_reducible assumption); (case zloD => with_reducible assumption); (case zhv => exact hJ1.none _ (by omega)); (case zhl => (have hl9 := hJ1.elen); omega); (case zhG => (refine ⟨?zga, ?zgb, ?zgc, ?_, ?_, ?_, ?_⟩; (case zga => k_mem); (case zgb => k_mem); (case zgc => assumption); all_goals omega)); (case zm4 => k_mem); (case zn0 => k_ne); (case zn1 => k_ne); (case zn2 => k_ne); (case zn3 => k_ne); (case zn4 => k_ne); (case zn5 => k_ne); (case zn6 => k_ne); (case zw1 => omega); (case zw2 => omega); (case zv1 => exact fmod_lo _ (kbt_pos _)); (case zv2 => exact fmod_hi _ (kbt_pos _)); (case zp0 => omega); (case zp1 => omega); (case zp2 => omega); (case zkd => ktr_room); (case zku => ktr_units); k_whole; intro y9 oD9 u91 u92 u93 h9 tk9 hD9 F9 N9 l9; (try dsimp only at N9); (try k_lt l9); (try dsimp only); (try k_sweep); (try k_fold)); all_goals k_steps) | ((with_reducible show wpAny _ _ (call (Value.ref 669) [Value.ref _, Value.int _ _, Value.int _ _, Value.int _ _, Value.ref _]) _ _ _); (with_reducible rename SetFOk _ _ _ => hC1); k_dflt ( refine' SetFOk.use hC1 ?zk1 ?zk2 ?zk3 ?zk4 ?zk5 ?zk6 ?zU ?zhM ?zloM ?zm1 ?zn1 ?zm2 ?zn2 ?zhT ?zm3 ?zn3 ?zhG ?zn4 ?zn5 ?zm4 ?zn6 ?zw1 ?zw2 ?zv1 ?zv2 ?zp0 ?zp1 ?zp2 ?zkd ?zku ?_; (case zk1 => k_asm); (case zk2 => k_asm); (case zk3 => k_asm); (case zk4 => k_asm); (case zk5 => k_asm); (case zk6 => exact rfl); (case zm1 => k_mem); (case zm2 => k_mem); (case zhT => first | assumption | exact ⟨by k_get, by k_get, by k_get, by k_get⟩); (case zm3 => k_mem); (case zU => k_updF); (case zhM => with_reducible assumption); (case zloM => with_reducible assumption); (case zhG => (refine ⟨?zga, ?zgb, ?zgc, ?_, ?_, ?_, ?_⟩; (case zga => k_mem); (case zgb => k_mem); (case zgc => first | assumption | exact ⟨⟨_, by k_get⟩, ⟨_, by k_get⟩, ⟨_, by k_get⟩, ⟨_, by k_get⟩, by k_get, by k_get, by k_get⟩); all_goals omega)); (case zm4 => k_mem); (case zn1 => k_ne); (case zn2 => k_ne); (case zn3 => k_ne); (case zn4 => k_ne); (case zn5 => k_ne); (case zn6 => k_ne); (case zw1 => omega); (case zw2 => omega); (case zv1 => exact fmod_lo _ (kbt_pos _)); (case zv2 => exact fmod_hi _ (kbt_pos _)); (case zp0 => omega); (case zp1 => omega); (case zp2 => omega); (case zkd => ktr_room); (case zku => ktr_units); k_whole; intro D9 y9 oM9 oD9 u91 u92 u93 h9 tk9 hM9 hD9 lo9 F9 N9 l9 l9b; (try dsimp only at N9); (try k_lt l9); (try k_lt2 l9b); (try dsimp only); (try k_sweep); (try k_fold)); all_goals k_steps)))
    refine Halt.on ?_
    (rename News _ _ _ _ => hN); (with_reducible rename MInv _ _ _ _ _ _ _ _ => hinv)
    obtain ⟨y2, eq⟩ : ∃ x, x = nthA (ledOf hN) 0 := ⟨_, rfl⟩; (dsimp only [nthA, ledOf] at eq); subst eq
    obtain ⟨x2, eq⟩ : ∃ x, x = nthA (ledOf hN) 1 := ⟨_, rfl⟩; (dsimp only [nthA, ledOf] at eq); subst eq
    refine' UnrEnd.intro (by k_asm) (by k_asm) _ ?zsubt ?zofft ?zhJt
    case' zhJt => refine' ⟨D, oM, _, esT, esS, nT, nS, nSl, _, _, stored es (0 + (i : Int)) (Value.ref y2), _, _, _, (y2, wordT _ _ _ _ _) :: (x2, wordT _ _ _ _ _) :: tail, _, _, _, ⟨j1, ⟨_, j2⟩, ⟨_, j3⟩, j4, ⟨_, j5⟩, j6, j7⟩, ?zinvt, ?zfact, rfl⟩
    (case zinvt => rw [Int.zero_add]; exact MInv.next hinv (List.Mem.tail _ (List.Mem.head _)) (List.Mem.head _) (fun p hp => .tail _ (.tail _ hp)))
    (case zsubt => exact subC (by k_mem) (subC (by k_mem) (subC (by k_mem) (subC (by k_mem) (subC (by k_mem) (subC (by k_mem) (subC (by k_mem) (subC (by k_mem) (subC (by k_mem) (subC (by k_mem) (subC (by k_mem) (subC (by k_mem) (fun p hp => by repeat (first | exact hp | refine List.Mem.tail _ ?_))))))))))))))
    case' zfact => refine' ⟨b1, ?zf2t, b3, b4, b5, ?zf6t, ?zf7t, b8, ?zf9t, ?zf10t, ?zf11t, ?zf12t, fun p hp => .tail _ (.tail _ (b13 p hp))⟩
    (case zf2t => with_reducible assumption)
    (case zf6t => with_reducible assumption)
    (case zf7t => with_reducible assumption)
    (case zf9t => exact ne_cons (by k_ne) (ne_cons (by k_ne) b9))
    (case zf10t => exact ne_cons (by k_ne) (ne_cons (by k_ne) b10))
    (case zf11t => exact ne_cons (by k_ne) (ne_cons (by k_ne) b11))
    (case zf12t => exact ne_cons (by k_ne) (ne_cons (by k_ne) b12))
    (case zofft => (iterate 11 (refine ne_cons (by k_ne) ?_)); exact b12)
  · intro m' news' hJ h' tk Fm' N'
    obtain ⟨D, oM, oD, esT, esS, nT, nS, nSl, nl, nc, es, ws, vs', ns', tail, f, g, av, ⟨j1, ⟨ja, j2⟩, ⟨jb, j3⟩, j4, ⟨jc, j5⟩, j6, j7⟩, hinv, ⟨b1, b2, b3, b4, b5, b6, b7, b8, b9, b10, b11, b12, b13⟩, rfl⟩ := hJ
    (k_steps; repeat' (refine Halt.on ?_; first | ((with_reducible show wpAny _ _ (call (Value.ref 733) [Value.ref _, Value.int _ _]) _ _ _); (with_reducible rename MoldOk _ _ _ => hC733); k_dflt (refine' ClayC.use (hC733 _ _ _ _ _ _) ?zk1 ?zk2 ?zk3 ?zk4 ?zk5 ?zkK ?zkU ?zkI ?zkl ?zkp ?zkd ?zku ?_; (case zk1 => k_asm); (case zk2 => k_asm); (case zk3 => k_asm); (case zk4 => k_asm); (case zk5 => k_asm); (case zkK => first | exact rfl | assumption); (case zkU => k_updF); (case zkI => with_reducible assumption); (case zkl => first | assumption | omega); (case zkp => first | decide | omega | exact kbt_pos _); (case zkd => ktr_room); (case zku => ktr_units); k_whole; intro v9 h9 tk9 vs9 ns9 n9 hv9 hI9 hl9 F9 N9; obtain ⟨r9, t9, e9, hr0, hr1⟩ := hv9; subst e9; (try dsimp only at N9); (try dsimp only); (try k_sweep); (try k_fold)); all_goals k_steps) | ((with_reducible show wpAny _ _ (call (Value.ref 740) [Value.ref _, Value.int _ _, Value.int _ _]) _ _ _); (with_reducible rename IndexOk _ _ _ => hC740); k_dflt (refine' IdxC.use (hC740 _ _ _ _ _ _ _ _) ?zk1 ?zk2 ?zk3 ?zk4 ?zk5 ?zkK ?zkU ?zkI ?zkl ?zkp ?zkd ?zku ?_; (case zk1 => k_asm); (case zk2 => k_asm); (case zk3 => k_asm); (case zk4 => k_asm); (case zk5 => k_asm); (case zkK => first | exact rfl | assumption); (case zkU => k_updF); (case zkI => with_reducible assumption); (case zkl => first | assumption | omega); (case zkp => (refine ⟨?_, ?_, ?_, ?_⟩; all_goals (first | omega | decide))); (case zkd => ktr_room); (case zku => ktr_units); k_whole; intro T9 e9 fig9 unk9 sg9 v9 ta9 tb9 tc9 td9 h9 tk9 vs9 ns9 n9 hf1 hf2 hV9 hI9 hl9 F9 N9 l9 l9b; (try k_lt l9); (try k_lt2 l9b); (try dsimp only at N9); (try dsimp only); (try k_sweep); (try k_fold)); all_goals k_steps) | ((with_reducible show wpAny _ _ (call (Value.ref 669) [Value.ref _, Value.int _ _, Value.int _ _, Value.int _ _, Value.ref _]) _ _ _); (with_reducible rename MInv _ _ _ _ _ _ _ _ => hJ1); (with_reducible rename SetLOk _ _ _ => hC1); k_dflt ( refine' SetLOk.use hC1 ?zk1 ?zk2 ?zk3 ?zk4 ?zk5 ?zk6 ?zU ?zm0 ?zn0 ?zhM ?zloM ?zhD ?zloD ?zhv ?zhl ?zm1 ?zn1 ?zm2 ?zn2 ?zhT ?zm3 ?zn3 ?zhG ?zn4 ?zn5 ?zm4 ?zn6 ?zw1 ?zw2 ?zv1 ?zv2 ?zp0 ?zp1 ?zp2 ?zkd ?zku ?_; (case zk1 => k_asm); (case zk2 => k_asm); (case zk3 => k_asm); (case zk4 => k_asm); (case zk5 => k_asm); (case zk6 => exact rfl); (case zm1 => k_mem); (case zm2 => k_mem); (case zhT => assumption); (case zm3 => k_mem); (case zm0 => k_mem); (case zhM => with_reducible assumption); (case zloM => with_reducible assumption); (case zU => k_updF); (case zhD => with_reducible assumption); (case zloD => with_reducible assumption); (case zhv => exact hJ1.none _ (by omega)); (case zhl => (have hl9 := hJ1.elen); omega); (case zhG => (refine ⟨?zga, ?zgb, ?zgc, ?_, ?_, ?_, ?_⟩; (case zga => k_mem); (case zgb => k_mem); (case zgc => assumption); all_goals omega)); (case zm4 => k_mem); (case zn0 => k_ne); (case zn1 => k_ne); (case zn2 => k_ne); (case zn3 => k_ne); (case zn4 => k_ne); (case zn5 => k_ne); (case zn6 => k_ne); (case zw1 => omega); (case zw2 => omega); (case zv1 => exact fmod_lo _ (kbt_pos _)); (case zv2 => exact fmod_hi _ (kbt_pos _)); (case zp0 => omega); (case zp1 => omega); (case zp2 => omega); (case zkd => ktr_room); (case zku => ktr_units); k_whole; intro y9 oD9 u91 u92 u93 h9 tk9 hD9 F9 N9 l9; (try dsimp only at N9); (try k_lt l9); (try dsimp only); (try k_sweep); (try k_fold)); all_goals k_steps) | ((with_reducible show wpAny _ _ (call (Value.ref 669) [Value.ref _, Value.int _ _, Value.int _ _, Value.int _ _, Value.ref _]) _ _ _); (with_reducible rename SetFOk _ _ _ => hC1); k_dflt ( refine' SetFOk.use hC1 ?zk1 ?zk2 ?zk3 ?zk4 ?zk5 ?zk6 ?zU ?zhM ?zloM ?zm1 ?zn1 ?zm2 ?zn2 ?zhT ?zm3 ?zn3 ?zhG ?zn4 ?zn5 ?zm4 ?zn6 ?zw1 ?zw2 ?zv1 ?zv2 ?zp0 ?zp1 ?zp2 ?zkd ?zku ?_; (case zk1 => k_asm); (case zk2 => k_asm); (case zk3 => k_asm); (case zk4 => k_asm); (case zk5 => k_asm); (case zk6 => exact rfl); (case zm1 => k_mem); (case zm2 => k_mem); (case zhT => first | assumption | exact ⟨by k_get, by k_get, by k_get, by k_get⟩); (case zm3 => k_mem); (case zU => k_updF); (case zhM => with_reducible assumption); (case zloM => with_reducible assumption); (case zhG => (refine ⟨?zga, ?zgb, ?zgc, ?_, ?_, ?_, ?_⟩; (case zga => k_mem); (case zgb => k_mem); (case zgc => first | assumption | exact ⟨⟨_, by k_get⟩, ⟨_, by k_get⟩, ⟨_, by k_get⟩, ⟨_, by k_get⟩, by k_get, by k_get, by k_get⟩); all_goals omega)); (case zm4 => k_mem); (case zn1 => k_ne); (case zn2 => k_ne); (case zn3 => k_ne); (case zn4 => k_ne); (case zn5 => k_ne); (case zn6 => k_ne); (case zw1 => omega); (case zw2 => omega); (case zv1 => exact fmod_lo _ (kbt_pos _)); (case zv2 => exact fmod_hi _ (kbt_pos _)); (case zp0 => omega); (case zp1 => omega); (case zp2 => omega); (case zkd => ktr_room); (case zku => ktr_units); k_whole; intro D9 y9 oM9 oD9 u91 u92 u93 h9 tk9 hM9 hD9 lo9 F9 N9 l9 l9b; (try dsimp only at N9); (try k_lt l9); (try k_lt2 l9b); (try dsimp only); (try k_sweep); (try k_fold)); all_goals k_steps)))
    (with_reducible rename idxV _ _ _ _ => hV)
    (rename _ < low + size + 2 => hf2); obtain ⟨fig, eq⟩ : ∃ x, x = lhsOf hf2 := ⟨_, rfl⟩; (dsimp only [lhsOf] at eq); subst eq
    obtain ⟨sg, eq⟩ : ∃ x, x = sgOf hV := ⟨_, rfl⟩; (dsimp only [sgOf] at eq); subst eq
    obtain ⟨hu0, e8⟩ | ⟨hu0, t8, e8⟩ := hV
    all_goals subst e8
    all_goals (k_steps; repeat' (refine Halt.on ?_; first | ((with_reducible show wpAny _ _ (call (Value.ref 733) [Value.ref _, Value.int _ _]) _ _ _); (with_reducible rename MoldOk _ _ _ => hC733); k_dflt (refine' ClayC.use (hC733 _ _ _ _ _ _) ?zk1 ?zk2 ?zk3 ?zk4 ?zk5 ?zkK ?zkU ?zkI ?zkl ?zkp ?zkd ?zku ?_; (case zk1 => k_asm); (case zk2 => k_asm); (case zk3 => k_asm); (case zk4 => k_asm); (case zk5 => k_asm); (case zkK => first | exact rfl | assumption); (case zkU => k_updF); (case zkI => with_reducible assumption); (case zkl => first | assumption | omega); (case zkp => first | decide | omega | exact kbt_pos _); (case zkd => ktr_room); (case zku => ktr_units); k_whole; intro v9 h9 tk9 vs9 ns9 n9 hv9 hI9 hl9 F9 N9; obtain ⟨r9, t9, e9, hr0, hr1⟩ := hv9; subst e9; (try dsimp only at N9); (try dsimp only); (try k_sweep); (try k_fold)); all_goals k_steps) | ((with_reducible show wpAny _ _ (call (Value.ref 740) [Value.ref _, Value.int _ _, Value.int _ _]) _ _ _); (with_reducible rename IndexOk _ _ _ => hC740); k_dflt (refine' IdxC.use (hC740 _ _ _ _ _ _ _ _) ?zk1 ?zk2 ?zk3 ?zk4 ?zk5 ?zkK ?zkU ?zkI ?zkl ?zkp ?zkd ?zku ?_; (case zk1 => k_asm); (case zk2 => k_asm); (case zk3 => k_asm); (case zk4 => k_asm); (case zk5 => k_asm); (case zkK => first | exact rfl | assumption); (case zkU => k_updF); (case zkI => with_reducible assumption); (case zkl => first | assumption | omega); (case zkp => (refine ⟨?_, ?_, ?_, ?_⟩; all_goals (first | omega | decide))); (case zkd => ktr_room); (case zku => ktr_units); k_whole; intro T9 e9 fig9 unk9 sg9 v9 ta9 tb9 tc9 td9 h9 tk9 vs9 ns9 n9 hf1 hf2 hV9 hI9 hl9 F9 N9 l9 l9b; (try k_lt l9); (try k_lt2 l9b); (try dsimp only at N9); (try dsimp only); (try k_sweep); (try k_fold)); all_goals k_steps) | ((with_reducible show wpAny _ _ (call (Value.ref 669) [Value.ref _, Value.int _ _, Value.int _ _, Value.int _ _, Value.ref _]) _ _ _); (with_reducible rename MInv _ _ _ _ _ _ _ _ => hJ1); (with_reducible rename SetLOk _ _ _ => hC1); k_dflt ( refine' SetLOk.use hC1 ?zk1 ?zk2 ?zk3 ?zk4 ?zk5 ?zk6 ?zU ?zm0 ?zn0 ?zhM ?zloM ?zhD ?zloD ?zhv ?zhl ?zm1 ?zn1 ?zm2 ?zn2 ?zhT ?zm3 ?zn3 ?zhG ?zn4 ?zn5 ?zm4 ?zn6 ?zw1 ?zw2 ?zv1 ?zv2 ?zp0 ?zp1 ?zp2 ?zkd ?zku ?_; (case zk1 => k_asm); (case zk2 => k_asm); (case zk3 => k_asm); (case zk4 => k_asm); (case zk5 => k_asm); (case zk6 => exact rfl); (case zm1 => k_mem); (case zm2 => k_mem); (case zhT => assumption); (case zm3 => k_mem); (case zm0 => k_mem); (case zhM => with_reducible assumption); (case zloM => with_reducible assumption); (case zU => k_updF); (case zhD => with_reducible assumption); (case zloD => with_reducible assumption); (case zhv => exact hJ1.none _ (by omega)); (case zhl => (have hl9 := hJ1.elen); omega); (case zhG => (refine ⟨?zga, ?zgb, ?zgc, ?_, ?_, ?_, ?_⟩; (case zga => k_mem); (case zgb => k_mem); (case zgc => assumption); all_goals omega)); (case zm4 => k_mem); (case zn0 => k_ne); (case zn1 => k_ne); (case zn2 => k_ne); (case zn3 => k_ne); (case zn4 => k_ne); (case zn5 => k_ne); (case zn6 => k_ne); (case zw1 => omega); (case zw2 => omega); (case zv1 => exact fmod_lo _ (kbt_pos _)); (case zv2 => exact fmod_hi _ (kbt_pos _)); (case zp0 => omega); (case zp1 => omega); (case zp2 => omega); (case zkd => ktr_room); (case zku => ktr_units); k_whole; intro y9 oD9 u91 u92 u93 h9 tk9 hD9 F9 N9 l9; (try dsimp only at N9); (try k_lt l9); (try dsimp only); (try k_sweep); (try k_fold)); all_goals k_steps) | ((with_reducible show wpAny _ _ (call (Value.ref 669) [Value.ref _, Value.int _ _, Value.int _ _, Value.int _ _, Value.ref _]) _ _ _); (with_reducible rename SetFOk _ _ _ => hC1); k_dflt ( refine' SetFOk.use hC1 ?zk1 ?zk2 ?zk3 ?zk4 ?zk5 ?zk6 ?zU ?zhM ?zloM ?zm1 ?zn1 ?zm2 ?zn2 ?zhT ?zm3 ?zn3 ?zhG ?zn4 ?zn5 ?zm4 ?zn6 ?zw1 ?zw2 ?zv1 ?zv2 ?zp0 ?zp1 ?zp2 ?zkd ?zku ?_; (case zk1 => k_asm); (case zk2 => k_asm); (case zk3 => k_asm); (case zk4 => k_asm); (case zk5 => k_asm); (case zk6 => exact rfl); (case zm1 => k_mem); (case zm2 => k_mem); (case zhT => first | assumption | exact ⟨by k_get, by k_get, by k_get, by k_get⟩); (case zm3 => k_mem); (case zU => k_updF); (case zhM => with_reducible assumption); (case zloM => with_reducible assumption); (case zhG => (refine ⟨?zga, ?zgb, ?zgc, ?_, ?_, ?_, ?_⟩; (case zga => k_mem); (case zgb => k_mem); (case zgc => first | assumption | exact ⟨⟨_, by k_get⟩, ⟨_, by k_get⟩, ⟨_, by k_get⟩, ⟨_, by k_get⟩, by k_get, by k_get, by k_get⟩); all_goals omega)); (case zm4 => k_mem); (case zn1 => k_ne); (case zn2 => k_ne); (case zn3 => k_ne); (case zn4 => k_ne); (case zn5 => k_ne); (case zn6 => k_ne); (case zw1 => omega); (case zw2 => omega); (case zv1 => exact fmod_lo _ (kbt_pos _)); (case zv2 => exact fmod_hi _ (kbt_pos _)); (case zp0 => omega); (case zp1 => omega); (case zp2 => omega); (case zkd => ktr_room); (case zku => ktr_units); k_whole; intro D9 y9 oM9 oD9 u91 u92 u93 h9 tk9 hM9 hD9 lo9 F9 N9 l9 l9b; (try dsimp only at N9); (try k_lt l9); (try k_lt2 l9b); (try dsimp only); (try k_sweep); (try k_fold)); all_goals k_steps)))
    all_goals (with_reducible rename MInv _ _ _ _ _ _ _ _ => hinv)
    all_goals (have hFill : FillR F Lt (if sg = true then fig else fig.fmod 256) es f := fill_of hinv (nn_of bs1) bF5 bF6)
    · refine Halt.on ?_
      ((with_reducible rename MInv _ _ _ _ _ _ _ _ => hJ1); (with_reducible rename MemWOk _ _ _ => hC1); k_dflt (refine' MemWOk.use hC1 ?zk1 ?zk2 ?zk3 ?zk4 ?zk5 ?zk6 ?zm1 ?zm2 ?zf1 ?zf2 ?zhunk ?zm3 ?zm4 ?zhC ?zm5 ?zhM ?zloM ?zm6 ?zhD ?zloD ?zm7 ?zm8 ?zhT ?zm9 ?zhG ?zw1 ?zw2 ?zhfill ?zkd ?zku ?_ ?_; (case zk1 => k_asm); (case zk2 => k_asm); (case zk3 => k_asm); (case zk4 => k_asm); (case zk5 => k_asm); (case zk6 => exact rfl); (case zm1 => k_mem); (case zm2 => k_mem); (case zf1 => omega); (case zf2 => omega); (case zhunk => first | exact .inl (by with_reducible assumption) | exact .inr (by with_reducible assumption)); (case zm3 => k_mem); (case zm4 => k_mem); (case zhC => k_get); (case zm7 => k_mem); (case zm8 => k_mem); (case zhT => with_reducible assumption); (case zm9 => k_mem); (case zm5 => k_mem); (case zhM => with_reducible assumption); (case zloM => with_reducible assumption); (case zm6 => k_mem); (case zhD => with_reducible assumption); (case zloD => with_reducible assumption); (case zhG => (refine ⟨?zga, ?zgb, ?zgc, ?_, ?_, ?_, ?_⟩; (case zga => k_mem); (case zgb => k_mem); (case zgc => with_reducible assumption); all_goals omega)); (case zw1 => omega); (case zw2 => omega); (case zhfill => with_reducible assumption); (case zkd => ktr_room); (case zku => ktr_units)); all_goals k_whole)
      · intro x9 u91 u92 u93 h9 tk9 hor9 F9 N9 l9
        k_lt l9
        (try dsimp only)
        (k_steps; repeat' (refine Halt.on ?_; first | ((with_reducible show wpAny _ _ (call (Value.ref 733) [Value.ref _, Value.int _ _]) _ _ _); (with_reducible rename MoldOk _ _ _ => hC733); k_dflt (refine' ClayC.use (hC733 _ _ _ _ _ _) ?zk1 ?zk2 ?zk3 ?zk4 ?zk5 ?zkK ?zkU ?zkI ?zkl ?zkp ?zkd ?zku ?_; (case zk1 => k_asm); (case zk2 => k_asm); (case zk3 => k_asm); (case zk4 => k_asm); (case zk5 => k_asm); (case zkK => first | exact rfl | assumption); (case zkU => k_updF); (case zkI => with_reducible assumption); (case zkl => first | assumption | omega); (case zkp => first | decide | omega | exact kbt_pos _); (case zkd => ktr_room); (case zku => ktr_units); k_whole; intro v9 h9 tk9 vs9 ns9 n9 hv9 hI9 hl9 F9 N9; obtain ⟨r9, t9, e9, hr0, hr1⟩ := hv9; subst e9; (try dsimp only at N9); (try dsimp only); (try k_sweep); (try k_fold)); all_goals k_steps) | ((with_reducible show wpAny _ _ (call (Value.ref 740) [Value.ref _, Value.int _ _, Value.int _ _]) _ _ _); (with_reducible rename IndexOk _ _ _ => hC740); k_dflt (refine' IdxC.use (hC740 _ _ _ _ _ _ _ _) ?zk1 ?zk2 ?zk3 ?zk4 ?zk5 ?zkK ?zkU ?zkI ?zkl ?zkp ?zkd ?zku ?_; (case zk1 => k_asm); (case zk2 => k_asm); (case zk3 => k_asm); (case zk4 => k_asm); (case zk5 => k_asm); (case zkK => first | exact rfl | assumption); (case zkU => k_updF); (case zkI => with_reducible assumption); (case zkl => first | assumption | omega); (case zkp => (refine ⟨?_, ?_, ?_, ?_⟩; all_goals (first | omega | decide))); (case zkd => ktr_room); (case zku => ktr_units); k_whole; intro T9 e9 fig9 unk9 sg9 v9 ta9 tb9 tc9 td9 h9 tk9 vs9 ns9 n9 hf1 hf2 hV9 hI9 hl9 F9 N9 l9 l9b; (try k_lt l9); (try k_lt2 l9b); (try dsimp only at N9); (try dsimp only); (try k_sweep); (try k_fold)); all_goals k_steps) | ((with_reducible show wpAny _ _ (call (Value.ref 669) [Value.ref _, Value.int _ _, Value.int _ _, Value.int _ _, Value.ref _]) _ _ _); (with_reducible rename MInv _ _ _ _ _ _ _ _ => hJ1); (with_reducible rename SetLOk _ _ _ => hC1); k_dflt ( refine' SetLOk.use hC1 ?zk1 ?zk2 ?zk3 ?zk4 ?zk5 ?zk6 ?zU ?zm0 ?zn0 ?zhM ?zloM ?zhD ?zloD ?zhv ?zhl ?zm1 ?zn1 ?zm2 ?zn2 ?zhT ?zm3 ?zn3 ?zhG ?zn4 ?zn5 ?zm4 ?zn6 ?zw1 ?zw2 ?zv1 ?zv2 ?zp0 ?zp1 ?zp2 ?zkd ?zku ?_; (case zk1 => k_asm); (case zk2 => k_asm); (case zk3 => k_asm); (case zk4 => k_asm); (case zk5 => k_asm); (case zk6 => exact rfl); (case zm1 => k_mem); (case zm2 => k_mem); (case zhT => assumption); (case zm3 => k_mem); (case zm0 => k_mem); (case zhM => with_reducible assumption); (case zloM => with_reducible assumption); (case zU => k_updF); (case zhD => with_reducible assumption); (case zloD => with_reducible assumption); (case zhv => exact hJ1.none _ (by omega)); (case zhl => (have hl9 := hJ1.elen); omega); (case zhG => (refine ⟨?zga, ?zgb, ?zgc, ?_, ?_, ?_, ?_⟩; (case zga => k_mem); (case zgb => k_mem); (case zgc => assumption); all_goals omega)); (case zm4 => k_mem); (case zn0 => k_ne); (case zn1 => k_ne); (case zn2 => k_ne); (case zn3 => k_ne); (case zn4 => k_ne); (case zn5 => k_ne); (case zn6 => k_ne); (case zw1 => omega); (case zw2 => omega); (case zv1 => exact fmod_lo _ (kbt_pos _)); (case zv2 => exact fmod_hi _ (kbt_pos _)); (case zp0 => omega); (case zp1 => omega); (case zp2 => omega); (case zkd => ktr_room); (case zku => ktr_units); k_whole; intro y9 oD9 u91 u92 u93 h9 tk9 hD9 F9 N9 l9; (try dsimp only at N9); (try k_lt l9); (try dsimp only); (try k_sweep); (try k_fold)); all_goals k_steps) | ((with_reducible show wpAny _ _ (call (Value.ref 669) [Value.ref _, Value.int _ _, Value.int _ _, Value.int _ _, Value.ref _]) _ _ _); (with_reducible rename SetFOk _ _ _ => hC1); k_dflt ( refine' SetFOk.use hC1 ?zk1 ?zk2 ?zk3 ?zk4 ?zk5 ?zk6 ?zU ?zhM ?zloM ?zm1 ?zn1 ?zm2 ?zn2 ?zhT ?zm3 ?zn3 ?zhG ?zn4 ?zn5 ?zm4 ?zn6 ?zw1 ?zw2 ?zv1 ?zv2 ?zp0 ?zp1 ?zp2 ?zkd ?zku ?_; (case zk1 => k_asm); (case zk2 => k_asm); (case zk3 => k_asm); (case zk4 => k_asm); (case zk5 => k_asm); (case zk6 => exact rfl); (case zm1 => k_mem); (case zm2 => k_mem); (case zhT => first | assumption | exact ⟨by k_get, by k_get, by k_get, by k_get⟩); (case zm3 => k_mem); (case zU => k_updF); (case zhM => with_reducible assumption); (case zloM => with_reducible assumption); (case zhG => (refine ⟨?zga, ?zgb, ?zgc, ?_, ?_, ?_, ?_⟩; (case zga => k_mem); (case zgb => k_mem); (case zgc => first | assumption | exact ⟨⟨_, by k_get⟩, ⟨_, by k_get⟩, ⟨_, by k_get⟩, ⟨_, by k_get⟩, by k_get, by k_get, by k_get⟩); all_goals omega)); (case zm4 => k_mem); (case zn1 => k_ne); (case zn2 => k_ne); (case zn3 => k_ne); (case zn4 => k_ne); (case zn5 => k_ne); (case zn6 => k_ne); (case zw1 => omega); (case zw2 => omega); (case zv1 => exact fmod_lo _ (kbt_pos _)); (case zv2 => exact fmod_hi _ (kbt_pos _)); (case zp0 => omega); (case zp1 => omega); (case zp2 => omega); (case zkd => ktr_room); (case zku => ktr_units); k_whole; intro D9 y9 oM9 oD9 u91 u92 u93 h9 tk9 hM9 hD9 lo9 F9 N9 l9 l9b; (try dsimp only at N9); (try k_lt l9); (try k_lt2 l9b); (try dsimp only); (try k_sweep); (try k_fold)); all_goals k_steps)))
        refine' hret _ _ _ _ _ _ rfl ?zeI ?zel ?zeF ?zeN
        (case zeN => refine dropTo (by with_reducible assumption) (subC (by k_mem) (fun p hp => ?_)); repeat (first | exact b13 p hp | refine List.Mem.tail _ ?_))
        (case zeI => with_reducible assumption); (case zel => with_reducible assumption); (case zeF => with_reducible assumption)
      · intro p9 h9 tk9 hu9; exfalso; omega
    · skip
      have hlo := idx_low (sg := sg) bl1 bl2 (by assumption) (show fig ≤ 100 by omega)
      (rename _ < low + size => hhi)
      obtain ⟨j, hj⟩ : ∃ j : Int, j = if bf = true then low + size - 1 - (if sg = true then fig else fig.fmod 256) else (if sg = true then fig else fig.fmod 256) - low := ⟨_, rfl⟩
      obtain ⟨hj0, hj1, hj2, hj3⟩ := jj_of bs1 bf1 bf2 hlo hhi hj
      obtain ⟨g1, g2, ⟨t1, t2, t3, g3⟩, ⟨v1, v2, v3, g4⟩⟩ := hinv.at_ j hj0 (by omega)
      refine Halt.on ?_
      refine join_int j ?_ ?_
      · with_reducible refine IfExp_ ?_
        (k_steps; repeat' (refine Halt.on ?_; first | ((with_reducible show wpAny _ _ (call (Value.ref 733) [Value.ref _, Value.int _ _]) _ _ _); (with_reducible rename MoldOk _ _ _ => hC733); k_dflt (refine' ClayC.use (hC733 _ _ _ _ _ _) ?zk1 ?zk2 ?zk3 ?zk4 ?zk5 ?zkK ?zkU ?zkI ?zkl ?zkp ?zkd ?zku ?_; (case zk1 => k_asm); (case zk2 => k_asm); (case zk3 => k_asm); (case zk4 => k_asm); (case zk5 => k_asm); (case zkK => first | exact rfl | assumption); (case zkU => k_updF); (case zkI => with_reducible assumption); (case zkl => first | assumption | omega); (case zkp => first | decide | omega | exact kbt_pos _); (case zkd => ktr_room); (case zku => ktr_units); k_whole; intro v9 h9 tk9 vs9 ns9 n9 hv9 hI9 hl9 F9 N9; obtain ⟨r9, t9, e9, hr0, hr1⟩ := hv9; subst e9; (try dsimp only at N9); (try dsimp only); (try k_sweep); (try k_fold)); all_goals k_steps) | ((with_reducible show wpAny _ _ (call (Value.ref 740) [Value.ref _, Value.int _ _, Value.int _ _]) _ _ _); (with_reducible rename IndexOk _ _ _ => hC740); k_dflt (refine' IdxC.use (hC740 _ _ _ _ _ _ _ _) ?zk1 ?zk2 ?zk3 ?zk4 ?zk5 ?zkK ?zkU ?zkI ?zkl ?zkp ?zkd ?zku ?_; (case zk1 => k_asm); (case zk2 => k_asm); (case zk3 => k_asm); (case zk4 => k_asm); (case zk5 => k_asm); (case zkK => first | exact rfl | assumption); (case zkU => k_updF); (case zkI => with_reducible assumption); (case zkl => first | assumption | omega); (case zkp => (refine ⟨?_, ?_, ?_, ?_⟩; all_goals (first | omega | decide))); (case zkd => ktr_room); (case zku => ktr_units); k_whole; intro T9 e9 fig9 unk9 sg9 v9 ta9 tb9 tc9 td9 h9 tk9 vs9 ns9 n9 hf1 hf2 hV9 hI9 hl9 F9 N9 l9 l9b; (try k_lt l9); (try k_lt2 l9b); (try dsimp only at N9); (try dsimp only); (try k_sweep); (try k_fold)); all_goals k_steps) | ((with_reducible show wpAny _ _ (call (Value.ref 669) [Value.ref _, Value.int _ _, Value.int _ _, Value.int _ _, Value.ref _]) _ _ _); (with_reducible rename MInv _ _ _ _ _ _ _ _ => hJ1); (with_reducible rename SetLOk _ _ _ => hC1); k_dflt ( refine' SetLOk.use hC1 ?zk1 ?zk2 ?zk3 ?zk4 ?zk5 ?zk6 ?zU ?zm0 ?zn0 ?zhM ?zloM ?zhD ?zloD ?zhv ?zhl ?zm1 ?zn1 ?zm2 ?zn2 ?zhT ?zm3 ?zn3 ?zhG ?zn4 ?zn5 ?zm4 ?zn6 ?zw1 ?zw2 ?zv1 ?zv2 ?zp0 ?zp1 ?zp2 ?zkd ?zku ?_; (case zk1 => k_asm); (case zk2 => k_asm); (case zk3 => k_asm); (case zk4 => k_asm); (case zk5 => k_asm); (case zk6 => exact rfl); (case zm1 => k_mem); (case zm2 => k_mem); (case zhT => assumption); (case zm3 => k_mem); (case zm0 => k_mem); (case zhM => with_reducible assumption); (case zloM => with_reducible assumption); (case zU => k_updF); (case zhD => with_reducible assumption); (case zloD => with_reducible assumption); (case zhv => exact hJ1.none _ (by omega)); (case zhl => (have hl9 := hJ1.elen); omega); (case zhG => (refine ⟨?zga, ?zgb, ?zgc, ?_, ?_, ?_, ?_⟩; (case zga => k_mem); (case zgb => k_mem); (case zgc => assumption); all_goals omega)); (case zm4 => k_mem); (case zn0 => k_ne); (case zn1 => k_ne); (case zn2 => k_ne); (case zn3 => k_ne); (case zn4 => k_ne); (case zn5 => k_ne); (case zn6 => k_ne); (case zw1 => omega); (case zw2 => omega); (case zv1 => exact fmod_lo _ (kbt_pos _)); (case zv2 => exact fmod_hi _ (kbt_pos _)); (case zp0 => omega); (case zp1 => omega); (case zp2 => omega); (case zkd => ktr_room); (case zku => ktr_units); k_whole; intro y9 oD9 u91 u92 u93 h9 tk9 hD9 F9 N9 l9; (try dsimp only at N9); (try k_lt l9); (try dsimp only); (try k_sweep); (try k_fold)); all_goals k_steps) | ((with_reducible show wpAny _ _ (call (Value.ref 669) [Value.ref _, Value.int _ _, Value.int _ _, Value.int _ _, Value.ref _]) _ _ _); (with_reducible rename SetFOk _ _ _ => hC1); k_dflt ( refine' SetFOk.use hC1 ?zk1 ?zk2 ?zk3 ?zk4 ?zk5 ?zk6 ?zU ?zhM ?zloM ?zm1 ?zn1 ?zm2 ?zn2 ?zhT ?zm3 ?zn3 ?zhG ?zn4 ?zn5 ?zm4 ?zn6 ?zw1 ?zw2 ?zv1 ?zv2 ?zp0 ?zp1 ?zp2 ?zkd ?zku ?_; (case zk1 => k_asm); (case zk2 => k_asm); (case zk3 => k_asm); (case zk4 => k_asm); (case zk5 => k_asm); (case zk6 => exact rfl); (case zm1 => k_mem); (case zm2 => k_mem); (case zhT => first | assumption | exact ⟨by k_get, by k_get, by k_get, by k_get⟩); (case zm3 => k_mem); (case zU => k_updF); (case zhM => with_reducible assumption); (case zloM => with_reducible assumption); (case zhG => (refine ⟨?zga, ?zgb, ?zgc, ?_, ?_, ?_, ?_⟩; (case zga => k_mem); (case zgb => k_mem); (case zgc => first | assumption | exact ⟨⟨_, by k_get⟩, ⟨_, by k_get⟩, ⟨_, by k_get⟩, ⟨_, by k_get⟩, by k_get, by k_get, by k_get⟩); all_goals omega)); (case zm4 => k_mem); (case zn1 => k_ne); (case zn2 => k_ne); (case zn3 => k_ne); (case zn4 => k_ne); (case zn5 => k_ne); (case zn6 => k_ne); (case zw1 => omega); (case zw2 => omega); (case zv1 => exact fmod_lo _ (kbt_pos _)); (case zv2 => exact fmod_hi _ (kbt_pos _)); (case zp0 => omega); (case zp1 => omega); (case zp2 => omega); (case zkd => ktr_room); (case zku => ktr_units); k_whole; intro D9 y9 oM9 oD9 u91 u92 u93 h9 tk9 hM9 hD9 lo9 F9 N9 l9 l9b; (try dsimp only at N9); (try k_lt l9); (try k_lt2 l9b); (try dsimp only); (try k_sweep); (try k_fold)); all_goals k_steps)))
        · refine Halt.on (JoinI.of ?_ rfl); rw [hj, if_pos (show bf = true by assumption)]
        · refine Halt.on (JoinI.of ?_ rfl); rw [hj, if_neg (show ¬ bf = true by first | assumption | (rename bf = false => hb; rw [hb]; decide))]
      intro tJ kJ
      (try dsimp only)
      (k_steps; repeat' (refine Halt.on ?_; first | ((with_reducible show wpAny _ _ (call (Value.ref 733) [Value.ref _, Value.int _ _]) _ _ _); (with_reducible rename MoldOk _ _ _ => hC733); k_dflt (refine' ClayC.use (hC733 _ _ _ _ _ _) ?zk1 ?zk2 ?zk3 ?zk4 ?zk5 ?zkK ?zkU ?zkI ?zkl ?zkp ?zkd ?zku ?_; (case zk1 => k_asm); (case zk2 => k_asm); (case zk3 => k_asm); (case zk4 => k_asm); (case zk5 => k_asm); (case zkK => first | exact rfl | assumption); (case zkU => k_updF); (case zkI => with_reducible assumption); (case zkl => first | assumption | omega); (case zkp => first | decide | omega | exact kbt_pos _); (case zkd => ktr_room); (case zku => ktr_units); k_whole; intro v9 h9 tk9 vs9 ns9 n9 hv9 hI9 hl9 F9 N9; obtain ⟨r9, t9, e9, hr0, hr1⟩ := hv9; subst e9; (try dsimp only at N9); (try dsimp only); (try k_sweep); (try k_fold)); all_goals k_steps) | ((with_reducible show wpAny _ _ (call (Value.ref 740) [Value.ref _, Value.int _ _, Value.int _ _]) _ _ _); (with_reducible rename IndexOk _ _ _ => hC740); k_dflt (refine' IdxC.use (hC740 _ _ _ _ _ _ _ _) ?zk1 ?zk2 ?zk3 ?zk4 ?zk5 ?zkK ?zkU ?zkI ?zkl ?zkp ?zkd ?zku ?_; (case zk1 => k_asm); (case zk2 => k_asm); (case zk3 => k_asm); (case zk4 => k_asm); (case zk5 => k_asm); (case zkK => first | exact rfl | assumption); (case zkU => k_updF); (case zkI => with_reducible assumption); (case zkl => first | assumption | omega); (case zkp => (refine ⟨?_, ?_, ?_, ?_⟩; all_goals (first | omega | decide))); (case zkd => ktr_room); (case zku => ktr_units); k_whole; intro T9 e9 fig9 unk9 sg9 v9 ta9 tb9 tc9 td9 h9 tk9 vs9 ns9 n9 hf1 hf2 hV9 hI9 hl9 F9 N9 l9 l9b; (try k_lt l9); (try k_lt2 l9b); (try dsimp only at N9); (try dsimp only); (try k_sweep); (try k_fold)); all_goals k_steps) | ((with_reducible show wpAny _ _ (call (Value.ref 669) [Value.ref _, Value.int _ _, Value.int _ _, Value.int _ _, Value.ref _]) _ _ _); (with_reducible rename MInv _ _ _ _ _ _ _ _ => hJ1); (with_reducible rename SetLOk _ _ _ => hC1); k_dflt ( refine' SetLOk.use hC1 ?zk1 ?zk2 ?zk3 ?zk4 ?zk5 ?zk6 ?zU ?zm0 ?zn0 ?zhM ?zloM ?zhD ?zloD ?zhv ?zhl ?zm1 ?zn1 ?zm2 ?zn2 ?zhT ?zm3 ?zn3 ?zhG ?zn4 ?zn5 ?zm4 ?zn6 ?zw1 ?zw2 ?zv1 ?zv2 ?zp0 ?zp1 ?zp2 ?zkd ?zku ?_; (case zk1 => k_asm); (case zk2 => k_asm); (case zk3 => k_asm); (case zk4 => k_asm); (case zk5 => k_asm); (case zk6 => exact rfl); (case zm1 => k_mem); (case zm2 => k_mem); (case zhT => assumption); (case zm3 => k_mem); (case zm0 => k_mem); (case zhM => with_reducible assumption); (case zloM => with_reducible assumption); (case zU => k_updF); (case zhD => with_reducible assumption); (case zloD => with_reducible assumption); (case zhv => exact hJ1.none _ (by omega)); (case zhl => (have hl9 := hJ1.elen); omega); (case zhG => (refine ⟨?zga, ?zgb, ?zgc, ?_, ?_, ?_, ?_⟩; (case zga => k_mem); (case zgb => k_mem); (case zgc => assumption); all_goals omega)); (case zm4 => k_mem); (case zn0 => k_ne); (case zn1 => k_ne); (case zn2 => k_ne); (case zn3 => k_ne); (case zn4 => k_ne); (case zn5 => k_ne); (case zn6 => k_ne); (case zw1 => omega); (case zw2 => omega); (case zv1 => exact fmod_lo _ (kbt_pos _)); (case zv2 => exact fmod_hi _ (kbt_pos _)); (case zp0 => omega); (case zp1 => omega); (case zp2 => omega); (case zkd => ktr_room); (case zku => ktr_units); k_whole; intro y9 oD9 u91 u92 u93 h9 tk9 hD9 F9 N9 l9; (try dsimp only at N9); (try k_lt l9); (try dsimp only); (try k_sweep); (try k_fold)); all_goals k_steps) | ((with_reducible show wpAny _ _ (call (Value.ref 669) [Value.ref _, Value.int _ _, Value.int _ _, Value.int _ _, Value.ref _]) _ _ _); (with_reducible rename SetFOk _ _ _ => hC1); k_dflt ( refine' SetFOk.use hC1 ?zk1 ?zk2 ?zk3 ?zk4 ?zk5 ?zk6 ?zU ?zhM ?zloM ?zm1 ?zn1 ?zm2 ?zn2 ?zhT ?zm3 ?zn3 ?zhG ?zn4 ?zn5 ?zm4 ?zn6 ?zw1 ?zw2 ?zv1 ?zv2 ?zp0 ?zp1 ?zp2 ?zkd ?zku ?_; (case zk1 => k_asm); (case zk2 => k_asm); (case zk3 => k_asm); (case zk4 => k_asm); (case zk5 => k_asm); (case zk6 => exact rfl); (case zm1 => k_mem); (case zm2 => k_mem); (case zhT => first | assumption | exact ⟨by k_get, by k_get, by k_get, by k_get⟩); (case zm3 => k_mem); (case zU => k_updF); (case zhM => with_reducible assumption); (case zloM => with_reducible assumption); (case zhG => (refine ⟨?zga, ?zgb, ?zgc, ?_, ?_, ?_, ?_⟩; (case zga => k_mem); (case zgb => k_mem); (case zgc => first | assumption | exact ⟨⟨_, by k_get⟩, ⟨_, by k_get⟩, ⟨_, by k_get⟩, ⟨_, by k_get⟩, by k_get, by k_get, by k_get⟩); all_goals omega)); (case zm4 => k_mem); (case zn1 => k_ne); (case zn2 => k_ne); (case zn3 => k_ne); (case zn4 => k_ne); (case zn5 => k_ne); (case zn6 => k_ne); (case zw1 => omega); (case zw2 => omega); (case zv1 => exact fmod_lo _ (kbt_pos _)); (case zv2 => exact fmod_hi _ (kbt_pos _)); (case zp0 => omega); (case zp1 => omega); (case zp2 => omega); (case zkd => ktr_room); (case zku => ktr_units); k_whole; intro D9 y9 oM9 oD9 u91 u92 u93 h9 tk9 hM9 hD9 lo9 F9 N9 l9 l9b; (try dsimp only at N9); (try k_lt l9); (try k_lt2 l9b); (try dsimp only); (try k_sweep); (try k_fold)); all_goals k_steps)))
      refine Halt.on ?_
      ((with_reducible rename MInv _ _ _ _ _ _ _ _ => hJ1); (with_reducible rename MemWOk _ _ _ => hC1); k_dflt (refine' MemWOk.use hC1 ?zk1 ?zk2 ?zk3 ?zk4 ?zk5 ?zk6 ?zm1 ?zm2 ?zf1 ?zf2 ?zhunk ?zm3 ?zm4 ?zhC ?zm5 ?zhM ?zloM ?zm6 ?zhD ?zloD ?zm7 ?zm8 ?zhT ?zm9 ?zhG ?zw1 ?zw2 ?zhfill ?zkd ?zku ?_ ?_; (case zk1 => k_asm); (case zk2 => k_asm); (case zk3 => k_asm); (case zk4 => k_asm); (case zk5 => k_asm); (case zk6 => exact rfl); (case zm1 => k_mem); (case zm2 => k_mem); (case zf1 => omega); (case zf2 => omega); (case zhunk => first | exact .inl (by with_reducible assumption) | exact .inr (by with_reducible assumption)); (case zm3 => k_mem); (case zm4 => k_mem); (case zhC => k_get); (case zm7 => k_mem); (case zm8 => k_mem); (case zhT => with_reducible assumption); (case zm9 => k_mem); (case zm5 => k_mem); (case zhM => with_reducible assumption); (case zloM => with_reducible assumption); (case zm6 => k_mem); (case zhD => with_reducible assumption); (case zloD => with_reducible assumption); (case zhG => (refine ⟨?zga, ?zgb, ?zgc, ?_, ?_, ?_, ?_⟩; (case zga => k_mem); (case zgb => k_mem); (case zgc => with_reducible assumption); all_goals omega)); (case zw1 => omega); (case zw2 => omega); (case zhfill => with_reducible assumption); (case zkd => ktr_room); (case zku => ktr_units)); all_goals k_whole)
      · intro x9 u91 u92 u93 h9 tk9 hor9 F9 N9 l9
        exfalso
        rcases hor9 with hor9 | ⟨_, hor9⟩
        · omega
        · exact hj2 hor9
      · intro p9 h9 tk9 hu9 hp9 hp0 F9 N9
        have ep := hj3 p9 hp9 hp0
        subst ep
        (try dsimp only)
        (k_steps; repeat' (refine Halt.on ?_; first | ((with_reducible show wpAny _ _ (call (Value.ref 733) [Value.ref _, Value.int _ _]) _ _ _); (with_reducible rename MoldOk _ _ _ => hC733); k_dflt (refine' ClayC.use (hC733 _ _ _ _ _ _) ?zk1 ?zk2 ?zk3 ?zk4 ?zk5 ?zkK ?zkU ?zkI ?zkl ?zkp ?zkd ?zku ?_; (case zk1 => k_asm); (case zk2 => k_asm); (case zk3 => k_asm); (case zk4 => k_asm); (case zk5 => k_asm); (case zkK => first | exact rfl | assumption); (case zkU => k_updF); (case zkI => with_reducible assumption); (case zkl => first | assumption | omega); (case zkp => first | decide | omega | exact kbt_pos _); (case zkd => ktr_room); (case zku => ktr_units); k_whole; intro v9 h9 tk9 vs9 ns9 n9 hv9 hI9 hl9 F9 N9; obtain ⟨r9, t9, e9, hr0, hr1⟩ := hv9; subst e9; (try dsimp only at N9); (try dsimp only); (try k_sweep); (try k_fold)); all_goals k_steps) | ((with_reducible show wpAny _ _ (call (Value.ref 740) [Value.ref _, Value.int _ _, Value.int _ _]) _ _ _); (with_reducible rename IndexOk _ _ _ => hC740); k_dflt (refine' IdxC.use (hC740 _ _ _ _ _ _ _ _) ?zk1 ?zk2 ?zk3 ?zk4 ?zk5 ?zkK ?zkU ?zkI ?zkl ?zkp ?zkd ?zku ?_; (case zk1 => k_asm); (case zk2 => k_asm); (case zk3 => k_asm); (case zk4 => k_asm); (case zk5 => k_asm); (case zkK => first | exact rfl | assumption); (case zkU => k_updF); (case zkI => with_reducible assumption); (case zkl => first | assumption | omega); (case zkp => (refine ⟨?_, ?_, ?_, ?_⟩; all_goals (first | omega | decide))); (case zkd => ktr_room); (case zku => ktr_units); k_whole; intro T9 e9 fig9 unk9 sg9 v9 ta9 tb9 tc9 td9 h9 tk9 vs9 ns9 n9 hf1 hf2 hV9 hI9 hl9 F9 N9 l9 l9b; (try k_lt l9); (try k_lt2 l9b); (try dsimp only at N9); (try dsimp only); (try k_sweep); (try k_fold)); all_goals k_steps) | ((with_reducible show wpAny _ _ (call (Value.ref 669) [Value.ref _, Value.int _ _, Value.int _ _, Value.int _ _, Value.ref _]) _ _ _); (with_reducible rename MInv _ _ _ _ _ _ _ _ => hJ1); (with_reducible rename SetLOk _ _ _ => hC1); k_dflt ( refine' SetLOk.use hC1 ?zk1 ?zk2 ?zk3 ?zk4 ?zk5 ?zk6 ?zU ?zm0 ?zn0 ?zhM ?zloM ?zhD ?zloD ?zhv ?zhl ?zm1 ?zn1 ?zm2 ?zn2 ?zhT ?zm3 ?zn3 ?zhG ?zn4 ?zn5 ?zm4 ?zn6 ?zw1 ?zw2 ?zv1 ?zv2 ?zp0 ?zp1 ?zp2 ?zkd ?zku ?_; (case zk1 => k_asm); (case zk2 => k_asm); (case zk3 => k_asm); (case zk4 => k_asm); (case zk5 => k_asm); (case zk6 => exact rfl); (case zm1 => k_mem); (case zm2 => k_mem); (case zhT => assumption); (case zm3 => k_mem); (case zm0 => k_mem); (case zhM => with_reducible assumption); (case zloM => with_reducible assumption); (case zU => k_updF); (case zhD => with_reducible assumption); (case zloD => with_reducible assumption); (case zhv => exact hJ1.none _ (by omega)); (case zhl => (have hl9 := hJ1.elen); omega); (case zhG => (refine ⟨?zga, ?zgb, ?zgc, ?_, ?_, ?_, ?_⟩; (case zga => k_mem); (case zgb => k_mem); (case zgc => assumption); all_goals omega)); (case zm4 => k_mem); (case zn0 => k_ne); (case zn1 => k_ne); (case zn2 => k_ne); (case zn3 => k_ne); (case zn4 => k_ne); (case zn5 => k_ne); (case zn6 => k_ne); (case zw1 => omega); (case zw2 => omega); (case zv1 => exact fmod_lo _ (kbt_pos _)); (case zv2 => exact fmod_hi _ (kbt_pos _)); (case zp0 => omega); (case zp1 => omega); (case zp2 => omega); (case zkd => ktr_room); (case zku => ktr_units); k_whole; intro y9 oD9 u91 u92 u93 h9 tk9 hD9 F9 N9 l9; (try dsimp only at N9); (try k_lt l9); (try dsimp only); (try k_sweep); (try k_fold)); all_goals k_steps) | ((with_reducible show wpAny _ _ (call (Value.ref 669) [Value.ref _, Value.int _ _, Value.int _ _, Value.int _ _, Value.ref _]) _ _ _); (with_reducible rename SetFOk _ _ _ => hC1); k_dflt ( refine' SetFOk.use hC1 ?zk1 ?zk2 ?zk3 ?zk4 ?zk5 ?zk6 ?zU ?zhM ?zloM ?zm1 ?zn1 ?zm2 ?zn2 ?zhT ?zm3 ?zn3 ?zhG ?zn4 ?zn5 ?zm4 ?zn6 ?zw1 ?zw2 ?zv1 ?zv2 ?zp0 ?zp1 ?zp2 ?zkd ?zku ?_; (case zk1 => k_asm); (case zk2 => k_asm); (case zk3 => k_asm); (case zk4 => k_asm); (case zk5 => k_asm); (case zk6 => exact rfl); (case zm1 => k_mem); (case zm2 => k_mem); (case zhT => first | assumption | exact ⟨by k_get, by k_get, by k_get, by k_get⟩); (case zm3 => k_mem); (case zU => k_updF); (case zhM => with_reducible assumption); (case zloM => with_reducible assumption); (case zhG => (refine ⟨?zga, ?zgb, ?zgc, ?_, ?_, ?_, ?_⟩; (case zga => k_mem); (case zgb => k_mem); (case zgc => first | assumption | exact ⟨⟨_, by k_get⟩, ⟨_, by k_get⟩, ⟨_, by k_get⟩, ⟨_, by k_get⟩, by k_get, by k_get, by k_get⟩); all_goals omega)); (case zm4 => k_mem); (case zn1 => k_ne); (case zn2 => k_ne); (case zn3 => k_ne); (case zn4 => k_ne); (case zn5 => k_ne); (case zn6 => k_ne); (case zw1 => omega); (case zw2 => omega); (case zv1 => exact fmod_lo _ (kbt_pos _)); (case zv2 => exact fmod_hi _ (kbt_pos _)); (case zp0 => omega); (case zp1 => omega); (case zp2 => omega); (case zkd => ktr_room); (case zku => ktr_units); k_whole; intro D9 y9 oM9 oD9 u91 u92 u93 h9 tk9 hM9 hD9 lo9 F9 N9 l9 l9b; (try dsimp only at N9); (try k_lt l9); (try k_lt2 l9b); (try dsimp only); (try k_sweep); (try k_fold)); all_goals k_steps)))
        refine' hret _ _ _ _ _ _ rfl ?zeI ?zel ?zeF ?zeN
        (case zeN => refine dropTo (by with_reducible assumption) (subC (by k_mem) (fun p hp => ?_)); repeat (first | exact b13 p hp | refine List.Mem.tail _ ?_))
        (case zeI => with_reducible assumption); (case zel => with_reducible assumption); (case zeF => with_reducible assumption)
    · have hlo := idx_low (sg := sg) bl1 bl2 (by assumption) (show fig ≤ 100 by omega)
      (rename ¬ _ < low + size => hhi)
      refine Halt.on ?_
      ((with_reducible rename MInv _ _ _ _ _ _ _ _ => hJ1); (with_reducible rename MemWOk _ _ _ => hC1); k_dflt (refine' MemWOk.use hC1 ?zk1 ?zk2 ?zk3 ?zk4 ?zk5 ?zk6 ?zm1 ?zm2 ?zf1 ?zf2 ?zhunk ?zm3 ?zm4 ?zhC ?zm5 ?zhM ?zloM ?zm6 ?zhD ?zloD ?zm7 ?zm8 ?zhT ?zm9 ?zhG ?zw1 ?zw2 ?zhfill ?zkd ?zku ?_ ?_; (case zk1 => k_asm); (case zk2 => k_asm); (case zk3 => k_asm); (case zk4 => k_asm); (case zk5 => k_asm); (case zk6 => exact rfl); (case zm1 => k_mem); (case zm2 => k_mem); (case zf1 => omega); (case zf2 => omega); (case zhunk => first | exact .inl (by with_reducible assumption) | exact .inr (by with_reducible assumption)); (case zm3 => k_mem); (case zm4 => k_mem); (case zhC => k_get); (case zm7 => k_mem); (case zm8 => k_mem); (case zhT => with_reducible assumption); (case zm9 => k_mem); (case zm5 => k_mem); (case zhM => with_reducible assumption); (case zloM => with_reducible assumption); (case zm6 => k_mem); (case zhD => with_reducible assumption); (case zloD => with_reducible assumption); (case zhG => (refine ⟨?zga, ?zgb, ?zgc, ?_, ?_, ?_, ?_⟩; (case zga => k_mem); (case zgb => k_mem); (case zgc => with_reducible assumption); all_goals omega)); (case zw1 => omega); (case zw2 => omega); (case zhfill => with_reducible assumption); (case zkd => ktr_room); (case zku => ktr_units)); all_goals k_whole)
      · intro x9 u91 u92 u93 h9 tk9 hor9 F9 N9 l9
        k_lt l9
        (try dsimp only)
        (k_steps; repeat' (refine Halt.on ?_; first | ((with_reducible show wpAny _ _ (call (Value.ref 733) [Value.ref _, Value.int _ _]) _ _ _); (with_reducible rename MoldOk _ _ _ => hC733); k_dflt (refine' ClayC.use (hC733 _ _ _ _ _ _) ?zk1 ?zk2 ?zk3 ?zk4 ?zk5 ?zkK ?zkU ?zkI ?zkl ?zkp ?zkd ?zku ?_; (case zk1 => k_asm); (case zk2 => k_asm); (case zk3 => k_asm); (case zk4 => k_asm); (case zk5 => k_asm); (case zkK => first | exact rfl | assumption); (case zkU => k_updF); (case zkI => with_reducible assumption); (case zkl => first | assumption | omega); (case zkp => first | decide | omega | exact kbt_pos _); (case zkd => ktr_room); (case zku => ktr_units); k_whole; intro v9 h9 tk9 vs9 ns9 n9 hv9 hI9 hl9 F9 N9; obtain ⟨r9, t9, e9, hr0, hr1⟩ := hv9; subst e9; (try dsimp only at N9); (try dsimp only); (try k_sweep); (try k_fold)); all_goals k_steps) | ((with_reducible show wpAny _ _ (call (Value.ref 740) [Value.ref _, Value.int _ _, Value.int _ _]) _ _ _); (with_reducible rename IndexOk _ _ _ => hC740); k_dflt (refine' IdxC.use (hC740 _ _ _ _ _ _ _ _) ?zk1 ?zk2 ?zk3 ?zk4 ?zk5 ?zkK ?zkU ?zkI ?zkl ?zkp ?zkd ?zku ?_; (case zk1 => k_asm); (case zk2 => k_asm); (case zk3 => k_asm); (case zk4 => k_asm); (case zk5 => k_asm); (case zkK => first | exact rfl | assumption); (case zkU => k_updF); (case zkI => with_reducible assumption); (case zkl => first | assumption | omega); (case zkp => (refine ⟨?_, ?_, ?_, ?_⟩; all_goals (first | omega | decide))); (case zkd => ktr_room); (case zku => ktr_units); k_whole; intro T9 e9 fig9 unk9 sg9 v9 ta9 tb9 tc9 td9 h9 tk9 vs9 ns9 n9 hf1 hf2 hV9 hI9 hl9 F9 N9 l9 l9b; (try k_lt l9); (try k_lt2 l9b); (try dsimp only at N9); (try dsimp only); (try k_sweep); (try k_fold)); all_goals k_steps) | ((with_reducible show wpAny _ _ (call (Value.ref 669) [Value.ref _, Value.int _ _, Value.int _ _, Value.int _ _, Value.ref _]) _ _ _); (with_reducible rename MInv _ _ _ _ _ _ _ _ => hJ1); (with_reducible rename SetLOk _ _ _ => hC1); k_dflt ( refine' SetLOk.use hC1 ?zk1 ?zk2 ?zk3 ?zk4 ?zk5 ?zk6 ?zU ?zm0 ?zn0 ?zhM ?zloM ?zhD ?zloD ?zhv ?zhl ?zm1 ?zn1 ?zm2 ?zn2 ?zhT ?zm3 ?zn3 ?zhG ?zn4 ?zn5 ?zm4 ?zn6 ?zw1 ?zw2 ?zv1 ?zv2 ?zp0 ?zp1 ?zp2 ?zkd ?zku ?_; (case zk1 => k_asm); (case zk2 => k_asm); (case zk3 => k_asm); (case zk4 => k_asm); (case zk5 => k_asm); (case zk6 => exact rfl); (case zm1 => k_mem); (case zm2 => k_mem); (case zhT => assumption); (case zm3 => k_mem); (case zm0 => k_mem); (case zhM => with_reducible assumption); (case zloM => with_reducible assumption); (case zU => k_updF); (case zhD => with_reducible assumption); (case zloD => with_reducible assumption); (case zhv => exact hJ1.none _ (by omega)); (case zhl => (have hl9 := hJ1.elen); omega); (case zhG => (refine ⟨?zga, ?zgb, ?zgc, ?_, ?_, ?_, ?_⟩; (case zga => k_mem); (case zgb => k_mem); (case zgc => assumption); all_goals omega)); (case zm4 => k_mem); (case zn0 => k_ne); (case zn1 => k_ne); (case zn2 => k_ne); (case zn3 => k_ne); (case zn4 => k_ne); (case zn5 => k_ne); (case zn6 => k_ne); (case zw1 => omega); (case zw2 => omega); (case zv1 => exact fmod_lo _ (kbt_pos _)); (case zv2 => exact fmod_hi _ (kbt_pos _)); (case zp0 => omega); (case zp1 => omega); (case zp2 => omega); (case zkd => ktr_room); (case zku => ktr_units); k_whole; intro y9 oD9 u91 u92 u93 h9 tk9 hD9 F9 N9 l9; (try dsimp only at N9); (try k_lt l9); (try dsimp only); (try k_sweep); (try k_fold)); all_goals k_steps) | ((with_reducible show wpAny _ _ (call (Value.ref 669) [Value.ref _, Value.int _ _, Value.int _ _, Value.int _ _, Value.ref _]) _ _ _); (with_reducible rename SetFOk _ _ _ => hC1); k_dflt ( refine' SetFOk.use hC1 ?zk1 ?zk2 ?zk3 ?zk4 ?zk5 ?zk6 ?zU ?zhM ?zloM ?zm1 ?zn1 ?zm2 ?zn2 ?zhT ?zm3 ?zn3 ?zhG ?zn4 ?zn5 ?zm4 ?zn6 ?zw1 ?zw2 ?zv1 ?zv2 ?zp0 ?zp1 ?zp2 ?zkd ?zku ?_; (case zk1 => k_asm); (case zk2 => k_asm); (case zk3 => k_asm); (case zk4 => k_asm); (case zk5 => k_asm); (case zk6 => exact rfl); (case zm1 => k_mem); (case zm2 => k_mem); (case zhT => first | assumption | exact ⟨by k_get, by k_get, by k_get, by k_get⟩); (case zm3 => k_mem); (case zU => k_updF); (case zhM => with_reducible assumption); (case zloM => with_reducible assumption); (case zhG => (refine ⟨?zga, ?zgb, ?zgc, ?_, ?_, ?_, ?_⟩; (case zga => k_mem); (case zgb => k_mem); (case zgc => first | assumption | exact ⟨⟨_, by k_get⟩, ⟨_, by k_get⟩, ⟨_, by k_get⟩, ⟨_, by k_get⟩, by k_get, by k_get, by k_get⟩); all_goals omega)); (case zm4 => k_mem); (case zn1 => k_ne); (case zn2 => k_ne); (case zn3 => k_ne); (case zn4 => k_ne); (case zn5 => k_ne); (case zn6 => k_ne); (case zw1 => omega); (case zw2 => omega); (case zv1 => exact fmod_lo _ (kbt_pos _)); (case zv2 => exact fmod_hi _ (kbt_pos _)); (case zp0 => omega); (case zp1 => omega); (case zp2 => omega); (case zkd => ktr_room); (case zku => ktr_units); k_whole; intro D9 y9 oM9 oD9 u91 u92 u93 h9 tk9 hM9 hD9 lo9 F9 N9 l9 l9b; (try dsimp only at N9); (try k_lt l9); (try k_lt2 l9b); (try dsimp only); (try k_sweep); (try k_fold)); all_goals k_steps)))
        refine' hret _ _ _ _ _ _ rfl ?zeI ?zel ?zeF ?zeN
        (case zeN => refine dropTo (by with_reducible assumption) (subC (by k_mem) (fun p hp => ?_)); repeat (first | exact b13 p hp | refine List.Mem.tail _ ?_))
        (case zeI => with_reducible assumption); (case zel => with_reducible assumption); (case zeF => with_reducible assumption)
      · intro p9 h9 tk9 hu9 hp9 hp0
        exfalso
        obtain ⟨bF7, bF8⟩ := ff_more bs1 bf1 bf2
        unfold PlaceR at hp9
        omega
theorem clayOk (Qp : Program) (lop : List Str) : ClayOk Mine.pre.heap_1 Qp lop := by
  unfold ClayOk
  intro w mean mg mb dp un gd cn cs a ccd cl outer A₀ base h₀ L m s Q E sl vs ns news B F X N T hk hN hsl hI hd hu hret
  refine wpAny_call ?_
  k_dflt cell_enter
  (rename Fr h₀ L _ m => FG1); have hsl2 := stays_list (by exact FG1.keep) hsl
  k_steps
  refine Halt.on ?_
  (rename Fr _ _ _ _ => lF'); (with_unfolding_all refine' For_invVF lF' ?zk1 ?zk2 ?_; (case zk1 => exact rfl); (case zk2 => exact rfl))
  k_steps
  refine Halt.on ?_
  k_state (fun (pre : List Int) (clay : List Int) => clay.length ≤ 10 * pre.length) "clay"
  · k_steps
    all_goals (
      refine Halt.on ?_
      (rename Fr _ _ _ _ => lF'); (with_unfolding_all refine' For_invVF lF' ?zk1 ?zk2 ?_; (case zk1 => exact rfl); (case zk2 => exact rfl))
      k_steps
      refine Halt.on ?_
      k_state (fun (pre : List Int) (rest : Int) (clay : List Int) => clay.length ≤ 10 * kPre.length + pre.length) "rest" "clay")
    all_goals k_steps
    all_goals (refine Halt.on ?_; kst_close)
  · k_steps
    refine Halt.on ?_
    (with_reducible show wpAny _ _ (call (Value.builtin _) [Value.ref _]) _ _ _)
    (rename _ ∧ _ ∧ AllLt _ _ => hz)
    (rename IntsAre _ (List.take 50 _) => hI5); have hL5 := hI5.length
    refine rev_list (by k_asm) (by k_asm) (Upd.head (ne_cons (Nat.ne_of_lt hz.1) (ne_cons (Nat.ne_of_lt hz.2.1) (ne_lt hz.2.2)))) (le_size (by omega)) ?_
    intro h' F' N'
    k_steps
    refine' hret _ _ _ _ _ _ (IntsAre.reverse hI5) ?zhl (by k_asm) ?zhN ?zhlt
    (case zhl => rw [List.length_reverse]; omega)
    (case zhlt => exact fun q hq => ktn_ltOf hz.2.2 q hq)
    (case zhN => exact dropTo (by assumption) (subC (by k_mem) (fun p hp => by repeat (first | exact hp | refine List.Mem.tail _ ?_))))
namespace main
theorem tw10210597933619972095 : True := trivial
theorem tw13355152605343272895 : True := trivial
theorem tw6162249291895867263 : True := trivial
theorem tw9360745474812902239 : True := trivial
theorem tw15491723280356408159 : True := trivial
theorem tw10231336680788121439 : True := trivial
theorem tw17057053908230417247 : True := trivial
theorem tw18287795668848337631 : True := trivial
theorem tw11712081513822626495 : True := trivial
theorem tw4126091431370883743 : True := trivial
theorem tw3314904115985164895 : True := trivial
theorem tw12273490649430754879 : True := trivial
theorem tw18332899500509843999 : True := trivial
theorem tw13989496423458381343 : True := trivial
theorem tw9265829497004654079 : True := trivial
theorem tw17091655785135471103 : True := trivial
theorem tw14504180641510445567 : True := trivial
theorem tw221909299271738847 : True := trivial
theorem tw2750411421705246143 : True := trivial
theorem tw5287059835090251167 : True := trivial
theorem tw13187166440333854079 : True := trivial
theorem tw7332330508316399935 : True := trivial
theorem tw2704602940660078815 : True := trivial
theorem tw16656740534632174751 : True := trivial
theorem tw11544348965984651327 : True := trivial
theorem tw15806524323241146399 : True := trivial
theorem tw3299218664060906527 : True := trivial
theorem tw8079908401900000222 : True := trivial
theorem tw8265370782698574782 : True := trivial
theorem tw11221353774195762014 : True := trivial
theorem tw1236483940969888574 : True := trivial
theorem tw12543713266681445118 : True := trivial
theorem tw4775608329324902142 : True := trivial
theorem tw5901322066177533662 : True := trivial
theorem tw12361340156312767134 : True := trivial
theorem tw10876375607700338302 : True := trivial
theorem tw9563168847844234846 : True := trivial
theorem tw2759098988195820126 : True := trivial
theorem tw13270728482189477470 : True := trivial
theorem tw17336282652733537790 : True := trivial
theorem tw12751799325998411230 : True := trivial
theorem tw18418235949754561950 : True := trivial
theorem tw11399646045708457374 : True := trivial
theorem tw15060185592220127646 : True := trivial
theorem tw18425317256667529438 : True := trivial
theorem tw4333880214566435006 : True := trivial
theorem tw6418098437765475518 : True := trivial
theorem tw7623511443260959870 : True := trivial
theorem tw17450470499104002142 : True := trivial
theorem tw17128291446047057950 : True := trivial
theorem tw1777545030009416734 : True := trivial
theorem tw14788915703135433725 : True := trivial
theorem tw1099256609624015869 : True := trivial
theorem tw6660377722381337597 : True := trivial
theorem tw3343439749351644125 : True := trivial
theorem tw14640416626631428029 : True := trivial
theorem tw10177057350305019805 : True := trivial
theorem tw7761410557224570781 : True := trivial
theorem tw15485851114877660061 : True := trivial
theorem tw12915833801598196605 : True := trivial
theorem tw6044114016751833949 : True := trivial
theorem tw16819838333489098493 : True := trivial
theorem tw12927740378394474205 : True := trivial
theorem tw16676564476587882173 : True := trivial
theorem tw3864431920445960829 : True := trivial
theorem tw9381277316556691805 : True := trivial
theorem tw3958507339218470045 : True := trivial
theorem tw4766233809647381661 : True := trivial
theorem tw14027531716089632829 : True := trivial
theorem tw5309058905264134205 : True := trivial
theorem tw14439473939278146460 : True := trivial
theorem tw796168687070700412 : True := trivial
theorem tw5649967823195072380 : True := trivial
theorem tw11349898740250378076 : True := trivial
theorem tw11273777480241942364 : True := trivial
theorem tw9155575984036265788 : True := trivial
theorem tw302440914744352476 : True := trivial
theorem tw14859100970857779836 : True := trivial
theorem tw11251407683458634364 : True := trivial
theorem tw5571399437266216444 : True := trivial
theorem tw2406621943657119228 : True := trivial
theorem tw6183352029847204284 : True := trivial
theorem tw13154001654789283132 : True := trivial
theorem tw5243159528196176124 : True := trivial
theorem tw4310270188432123100 : True := trivial
theorem tw16778611742570070204 : True := trivial
theorem tw3613476055612923068 : True := trivial
theorem tw12900284412222446716 : True := trivial
theorem tw9942282790977331292 : True := trivial
theorem tw3911810758690780188 : True := trivial
theorem tw10204856939554784155 : True := trivial
theorem tw5831584030425509755 : True := trivial
theorem tw17223442867436993403 : True := trivial
theorem tw8546124895413445307 : True := trivial
theorem tw11962923498438245051 : True := trivial
theorem tw10453263994017694363 : True := trivial
theorem tw7153082081811710619 : True := trivial
theorem tw3491332818749588091 : True := trivial
theorem tw16035907590883218939 : True := trivial
theorem tw10992214633131536827 : True := trivial
theorem tw6741292078354696603 : True := trivial
theorem tw3583811862363856187 : True := trivial
theorem tw9121559901702372667 : True := trivial
theorem tw5473700226181020891 : True := trivial
theorem tw15465920861327815835 : True := trivial
theorem tw16923884221124529275 : True := trivial
theorem tw12431561837914552411 : True := trivial
theorem tw5261291663784722523 : True := trivial
theorem tw12922898485456448571 : True := trivial
theorem tw13803360072150633466 : True := trivial
theorem tw13547569757486424058 : True := trivial
theorem tw16022572192331126682 : True := trivial
theorem tw14457758005677747962 : True := trivial
theorem tw48596604365144762 : True := trivial
theorem tw1118068078248606362 : True := trivial
theorem tw66260789543402106 : True := trivial
theorem tw716429049611869786 : True := trivial
theorem tw15062679425460387418 : True := trivial
theorem tw4839478117068044826 : True := trivial
theorem tw6886502059237256666 : True := trivial
theorem tw12646911602827044314 : True := trivial
theorem tw6655696309031964122 : True := trivial
theorem tw5995161000843957690 : True := trivial
theorem tw9498315638749924794 : True := trivial
theorem tw7165207203227711834 : True := trivial
theorem tw5665735395497279834 : True := trivial
theorem tw12450111651097656602 : True := trivial
theorem tw1545906260438175962 : True := trivial
theorem tw1255815211270559930 : True := trivial
theorem tw7647378279178456250 : True := trivial
theorem tw16187894506366716058 : True := trivial
theorem tw7173623326730630234 : True := trivial
theorem tw8952462522180670554 : True := trivial
theorem tw10044588960856096794 : True := trivial
theorem tw5396188567872606041 : True := trivial
theorem tw6334894449686545209 : True := trivial
theorem tw17431719831054627609 : True := trivial
theorem tw16452447596832230105 : True := trivial
theorem tw11487549891475536569 : True := trivial
theorem tw7943094425149488825 : True := trivial
theorem tw16798622893749714585 : True := trivial
theorem tw13110970153573199417 : True := trivial
theorem tw14793117695081215449 : True := trivial
theorem tw5203219222101121401 : True := trivial
theorem tw15023316991559800185 : True := trivial
theorem tw9361300454564663673 : True := trivial
theorem tw15410482203810522393 : True := trivial
theorem tw6430990510535250169 : True := trivial
theorem tw11531331273489700057 : True := trivial
theorem tw10876229203375891673 : True := trivial
theorem tw15984706205718930553 : True := trivial
theorem tw9369988214560726041 : True := trivial
theorem tw33456957511925785 : True := trivial
theorem tw11815829001073249272 : True := trivial
theorem tw11692516046256081784 : True := trivial
theorem tw15225127925928830808 : True := trivial
theorem tw2744014450722944760 : True := trivial
theorem tw9848185148710128376 : True := trivial
theorem tw13626721169425172152 : True := trivial
theorem tw17236958762192778904 : True := trivial
theorem tw9656510801202774680 : True := trivial
theorem tw1156462466702112376 : True := trivial
theorem tw1409966394225722968 : True := trivial
theorem tw7235775444256392728 : True := trivial
theorem tw645136716886899192 : True := trivial
theorem tw11041547156204584376 : True := trivial
theorem tw799486724532869496 : True := trivial
theorem tw8809968196449919288 : True := trivial
theorem tw1157997071576566072 : True := trivial
theorem tw5102693214775723256 : True := trivial
theorem tw10825838108423173272 : True := trivial
theorem tw2433702464844828792 : True := trivial
theorem tw16641786646906312760 : True := trivial
theorem tw15580989882048331800 : True := trivial
theorem tw9925469786538053656 : True := trivial
theorem tw10877679251791092727 : True := trivial
theorem tw1198661942849946583 : True := trivial
theorem tw2373305999742304215 : True := trivial
theorem tw6862492499505807319 : True := trivial
theorem tw5396361742852586263 : True := trivial
theorem tw2921621734765799159 : True := trivial
theorem tw2895952525429962455 : True := trivial
theorem tw5517759331935216279 : True := trivial
theorem tw18325589031809861271 : True := trivial
theorem tw18063282731904131703 : True := trivial
theorem tw5401703158475992631 : True := trivial
theorem tw8834365191522931223 : True := trivial
theorem tw7974275031393228247 : True := trivial
theorem tw14106445559736802775 : True := trivial
theorem tw8652556701797213591 : True := trivial
theorem tw1150287232629052791 : True := trivial
theorem tw17453503289922162039 : True := trivial
theorem tw7074144079889050967 : True := trivial
theorem tw2238316416991798583 : True := trivial
theorem tw10821422270917381399 : True := trivial
theorem tw6663778134991626487 : True := trivial
theorem tw1277820614484962519 : True := trivial
theorem tw15510692781650021527 : True := trivial
theorem tw16832360635688203351 : True := trivial
theorem tw2190695567426971638 : True := trivial
theorem tw10665469846841522134 : True := trivial
theorem tw11388154006635350966 : True := trivial
theorem tw4026956272090484662 : True := trivial
theorem tw3549514262204291990 : True := trivial
theorem tw1850612553970854742 : True := trivial
theorem tw9069182735580402390 : True := trivial
theorem tw7884331609784382070 : True := trivial
theorem tw4749052000479324790 : True := trivial
theorem tw17864028415675338326 : True := trivial
theorem tw13838900630717943254 : True := trivial
theorem tw13590572293223372214 : True := trivial
theorem tw3848698983108048278 : True := trivial
theorem tw9392487213469676918 : True := trivial
theorem tw14061640607465278742 : True := trivial
theorem tw14492832472218066102 : True := trivial
theorem tw17298425922696826006 : True := trivial
theorem tw8557395850702784662 : True := trivial
theorem tw330327031418712150 : True := trivial
theorem tw2173562974560187446 : True := trivial
theorem tw18344032359734412310 : True := trivial
theorem tw12205347405646519318 : True := trivial
theorem tw10159738436595150677 : True := trivial
theorem tw10363585996791799541 : True := trivial
theorem tw3454311308915712629 : True := trivial
theorem tw5363903885879670357 : True := trivial
theorem tw4544244032028310869 : True := trivial
theorem tw3027586509356016917 : True := trivial
theorem tw8436210846270712021 : True := trivial
theorem tw3394367416137920725 : True := trivial
theorem tw2921958311620399285 : True := trivial
theorem tw18442785490491869365 : True := trivial
theorem tw12941965383739859093 : True := trivial
theorem tw14722489848711283861 : True := trivial
theorem tw15928290008803537013 : True := trivial
theorem tw2341703837736514645 : True := trivial
theorem tw8844999433837080629 : True := trivial
theorem tw9189880136782149556 : True := trivial
theorem tw6584820252761975732 : True := trivial
theorem tw3464709057266567092 : True := trivial
theorem tw10896356407431480244 : True := trivial
theorem tw2195194259037543316 : True := trivial
theorem tw10864377008497418100 : True := trivial
theorem tw1519992759497675636 : True := trivial
theorem tw16218864148678617972 : True := trivial
theorem tw14238892425647747892 : True := trivial
theorem tw1615045767204293396 : True := trivial
theorem tw2629084897520917108 : True := trivial
theorem tw1496695287857109588 : True := trivial
theorem tw11156056980113079860 : True := trivial
theorem tw11735423636902730196 : True := trivial
theorem tw3045742163950154196 : True := trivial
theorem tw9483120023164983764 : True := trivial
theorem tw16826212616301561204 : True := trivial
theorem tw9488428017035680116 : True := trivial
theorem tw17561526911342447988 : True := trivial
theorem tw3160845607165458772 : True := trivial
theorem tw5378808338967829844 : True := trivial
theorem tw11086099901593105684 : True := trivial
theorem tw15270170921892066516 : True := trivial
theorem tw6862268138105152660 : True := trivial
theorem tw8627561154394265716 : True := trivial
theorem tw3532412968194664532 : True := trivial
theorem tw3867218068155391060 : True := trivial
theorem tw6674386428176565332 : True := trivial
theorem tw15059693217772790739 : True := trivial
theorem tw2524017781993486291 : True := trivial
theorem tw17016820405989369747 : True := trivial
theorem tw5585478044538960755 : True := trivial
theorem tw10665089971535097683 : True := trivial
theorem tw1261021989165538067 : True := trivial
theorem tw8207831470162742035 : True := trivial
theorem tw15847309855283100339 : True := trivial
theorem tw1289389943133740499 : True := trivial
theorem tw6785657489111691699 : True := trivial
theorem tw10114013102757674387 : True := trivial
theorem tw4365514962571936147 : True := trivial
theorem tw5450094653865882931 : True := trivial
theorem tw16102231251864390963 : True := trivial
theorem tw2714283472998740243 : True := trivial
theorem tw7099566731139839155 : True := trivial
theorem tw17275675667316583603 : True := trivial
theorem tw4651154628705390771 : True := trivial
theorem tw14635473669698735251 : True := trivial
theorem tw12590340796369385619 : True := trivial
theorem tw17679725944135375923 : True := trivial
theorem tw13227692790652741651 : True := trivial
theorem tw10652611922669240339 : True := trivial
theorem tw4573282807186111410 : True := trivial
theorem tw9470667924834194258 : True := trivial
theorem tw5797031442667253490 : True := trivial
theorem tw4189750870438640210 : True := trivial
theorem tw9508770018378322450 : True := trivial
theorem tw14909365282108701170 : True := trivial
theorem tw3748114642381145586 : True := trivial
theorem tw918671981122897330 : True := trivial
theorem tw3635900802997115186 : True := trivial
theorem tw12608185968620612914 : True := trivial
theorem tw16817993663026736274 : True := trivial
theorem tw6632538468102435922 : True := trivial
theorem tw4812270449578504274 : True := trivial
theorem tw18031918436515192882 : True := trivial
theorem tw14060465935940456498 : True := trivial
theorem tw12885385263037960081 : True := trivial
theorem tw9682133043923132273 : True := trivial
theorem tw13503263706703578961 : True := trivial
theorem tw11967333016625521393 : True := trivial
theorem tw3960113756560652017 : True := trivial
theorem tw18392154025008590481 : True := trivial
theorem tw1429040668314091153 : True := trivial
theorem tw13980345723018547825 : True := trivial
theorem tw9897820754763898449 : True := trivial
theorem tw4072190877284726289 : True := trivial
theorem tw12839114828313443825 : True := trivial
theorem tw14235155234550121937 : True := trivial
theorem tw16251939892948500945 : True := trivial
theorem tw5921134243170700561 : True := trivial
theorem tw2544328076492683441 : True := trivial
theorem tw15616401959046598769 : True := trivial
theorem tw452746233719593009 : True := trivial
theorem tw16572128252103988241 : True := trivial
theorem tw12343854547171428336 : True := trivial
theorem tw16008252555379753968 : True := trivial
theorem tw12564604832814323664 : True := trivial
theorem tw6542085627976250192 : True := trivial
theorem tw5871769198996169552 : True := trivial
theorem tw6014477861935438640 : True := trivial
theorem tw17118054049896295152 : True := trivial
theorem tw7904437144335635152 : True := trivial
theorem tw12748397558918655664 : True := trivial
theorem tw1092785777240315536 : True := trivial
theorem tw17974016328880235120 : True := trivial
theorem tw2702614204127132176 : True := trivial
theorem tw3519925438711253488 : True := trivial
theorem tw11218778669853930896 : True := trivial
theorem tw8729708805864041840 : True := trivial
theorem tw18190005008629794160 : True := trivial
theorem tw12885673836220544336 : True := trivial
theorem tw15734200111481486640 : True := trivial
theorem tw13260870731297125680 : True := trivial
theorem tw6565609875121592624 : True := trivial
theorem tw6877560268529008848 : True := trivial
theorem tw5418533224930618480 : True := trivial
theorem tw7514964652732493775 : True := trivial
theorem tw189752952184145871 : True := trivial
theorem tw17725498274588495791 : True := trivial
theorem tw9964214247947446159 : True := trivial
theorem tw13180746182150919023 : True := trivial
theorem tw6696893160125735727 : True := trivial
theorem tw474381771622712015 : True := trivial
theorem tw7108953243070827183 : True := trivial
theorem tw13876859957761632879 : True := trivial
theorem tw4946776927847147119 : True := trivial
theorem tw10234815189450012239 : True := trivial
theorem tw9272984997812220495 : True := trivial
theorem tw9394770849952503311 : True := trivial
theorem tw17871620999419790863 : True := trivial
theorem tw17510229520200029679 : True := trivial
theorem tw11982392923317675503 : True := trivial
theorem tw10094358506670053839 : True := trivial
theorem tw7268301785047649679 : True := trivial
theorem tw15387884906608193903 : True := trivial
theorem tw4500915450034043215 : True := trivial
theorem tw18421580907717582127 : True := trivial
theorem tw73751810991705359 : True := trivial
theorem tw8478376212529829071 : True := trivial
theorem tw18120430973489738927 : True := trivial
theorem tw1678875084529416142 : True := trivial
theorem tw3779293765908593550 : True := trivial
theorem tw5532463470591059822 : True := trivial
theorem tw6455149578367423246 : True := trivial
theorem tw13972245371655741198 : True := trivial
theorem tw13642826006792871662 : True := trivial
theorem tw5127751686995613262 : True := trivial
theorem tw16026485685270457870 : True := trivial
theorem tw4650958065196391918 : True := trivial
theorem tw2019394398466159022 : True := trivial
theorem tw13974046611088194958 : True := trivial
theorem tw6912675738884088206 : True := trivial
theorem tw1826329307503635854 : True := trivial
theorem tw451873465583785326 : True := trivial
theorem tw2287757881348798766 : True := trivial
theorem tw979501456738626862 : True := trivial
theorem tw3562595001068472590 : True := trivial
theorem tw15643365686152983790 : True := trivial
theorem tw16959884160788844718 : True := trivial
theorem tw12800608258095302798 : True := trivial
theorem tw6657087868060814 : True := trivial
theorem tw6053611964639427726 : True := trivial
theorem tw11649988619022791790 : True := trivial
theorem tw13962693860625380366 : True := trivial
theorem tw545269030811804461 : True := trivial
theorem tw1886080085820668685 : True := trivial
theorem tw10047389527955405517 : True := trivial
theorem tw8484041278411425421 : True := trivial
theorem tw1178595665728414349 : True := trivial
theorem tw4585930131862741453 : True := trivial
theorem tw7875838824674609581 : True := trivial
theorem tw11239335112260394413 : True := trivial
theorem tw5181119749688162637 : True := trivial
theorem tw3466206800631347469 : True := trivial
theorem tw854977524454699277 : True := trivial
theorem tw12170992721606120685 : True := trivial
theorem tw7699798408344515789 : True := trivial
theorem tw18134284020713443437 : True := trivial
theorem tw7186131708394509389 : True := trivial
theorem tw12093647306153771053 : True := trivial
theorem tw10813080517026676716 : True := trivial
theorem tw9730157408454304684 : True := trivial
theorem tw3234112476842188716 : True := trivial
theorem tw15595112118272840620 : True := trivial
theorem tw6690441779611380620 : True := trivial
theorem tw5436791530062809996 : True := trivial
theorem tw9670510015898674028 : True := trivial
theorem tw4637267157515435788 : True := trivial
theorem tw9274054859765456524 : True := trivial
theorem tw14639212616227390028 : True := trivial
theorem tw8090509862211737132 : True := trivial
theorem tw17438294365789470252 : True := trivial
theorem tw12344883248587561484 : True := trivial
theorem tw8707812797481193996 : True := trivial
theorem tw18302796317244248524 : True := trivial
theorem tw18315214858253571532 : True := trivial
theorem tw15131278010643852716 : True := trivial
theorem tw12941917028564957548 : True := trivial
theorem tw8930851030842425676 : True := trivial
theorem tw6801380410627298636 : True := trivial
theorem tw12732289081945773324 : True := trivial
theorem tw11646826074482590764 : True := trivial
theorem tw16689149305811164139 : True := trivial
theorem tw17708487481403421675 : True := trivial
theorem tw5790326737455844299 : True := trivial
theorem tw3905226178654972811 : True := trivial
theorem tw18403998269306519403 : True := trivial
theorem tw832900586485598795 : True := trivial
theorem tw4330594992337426955 : True := trivial
theorem tw750237026923860459 : True := trivial
theorem tw2496676261509829067 : True := trivial
theorem tw10169072693733980587 : True := trivial
theorem tw5842977544298395883 : True := trivial
theorem tw10123989817122485451 : True := trivial
theorem tw18165044119631177899 : True := trivial
theorem tw11710404883906591787 : True := trivial
theorem tw104360540948158410 : True := trivial
theorem tw10334261112615635914 : True := trivial
theorem tw16356685582667847594 : True := trivial
theorem tw1319676515408343850 : True := trivial
theorem tw13777938177461255882 : True := trivial
theorem tw10924716458440934090 : True := trivial
theorem tw13113777628852026922 : True := trivial
theorem tw17290568124846718506 : True := trivial
theorem tw1628013610222277130 : True := trivial
theorem tw1504049600530537962 : True := trivial
theorem tw14406990849044604362 : True := trivial
theorem tw6237627108579964202 : True := trivial
theorem tw15093005655621253386 : True := trivial
theorem tw18431692314602308842 : True := trivial
theorem tw6855474311058116810 : True := trivial
theorem tw14218914174604095658 : True := trivial
theorem tw5240536507193477226 : True := trivial
theorem tw10092017014551392330 : True := trivial
theorem tw4156125974679941130 : True := trivial
theorem tw10625486282989778954 : True := trivial
theorem tw9307664123825394698 : True := trivial
theorem tw11595355409239048105 : True := trivial
theorem tw4990475226369331113 : True := trivial
theorem tw2900998541784483753 : True := trivial
theorem tw3557749057250611081 : True := trivial
theorem tw6164561884633627433 : True := trivial
theorem tw11020365191643786025 : True := trivial
theorem tw6702130215012162313 : True := trivial
theorem tw1454224541498743561 : True := trivial
theorem tw5677329702179833609 : True := trivial
theorem tw588950844065142505 : True := trivial
theorem tw12872379398031375081 : True := trivial
theorem tw2402762420636078793 : True := trivial
theorem tw12431731261707249289 : True := trivial
theorem tw15737690656516749961 : True := trivial
theorem tw12992176717851604617 : True := trivial
theorem tw17699438841360665129 : True := trivial
theorem tw13693970394777133609 : True := trivial
theorem tw13611887881385673225 : True := trivial
theorem tw15589955886551607785 : True := trivial
theorem tw4261964983698606537 : True := trivial
theorem tw17268439761433841065 : True := trivial
theorem tw13077236301305049449 : True := trivial
theorem tw10450603732522932521 : True := trivial
theorem tw1453356044741674121 : True := trivial
theorem tw17052023290607921161 : True := trivial
theorem tw5223280367591971720 : True := trivial
theorem tw1270039299266317192 : True := trivial
theorem tw10140136200207757160 : True := trivial
theorem tw3706830351922483016 : True := trivial
theorem tw4088224383575840552 : True := trivial
theorem tw17477492558424962760 : True := trivial
theorem tw15734660467963936456 : True := trivial
theorem tw14097447854668400296 : True := trivial
theorem tw14864641218109852296 : True := trivial
theorem tw7308723440029596264 : True := trivial
theorem tw4139100593308808776 : True := trivial
theorem tw16320215318167395912 : True := trivial
theorem tw14161005256144132680 : True := trivial
theorem tw4452170602077327944 : True := trivial
theorem tw18238007617527299592 : True := trivial
theorem tw1615956725737779560 : True := trivial
theorem tw17201416709059790184 : True := trivial
theorem tw12455012482086183272 : True := trivial
theorem tw8496349624203035976 : True := trivial
theorem tw6161133996638707016 : True := trivial
theorem tw11403851563620829512 : True := trivial
theorem tw12675357926760492328 : True := trivial
theorem tw6788695710022549768 : True := trivial
theorem tw52199770228462824 : True := trivial
theorem tw15079240505294077160 : True := trivial
theorem tw14562738103837258888 : True := trivial
theorem tw9391614825396419720 : True := trivial
theorem tw16153842264607907944 : True := trivial
theorem tw9573086628692744296 : True := trivial
theorem tw13132915859168520264 : True := trivial
theorem tw5781596087445459943 : True := trivial
theorem tw16049902774474827687 : True := trivial
theorem tw10463206416058312583 : True := trivial
theorem tw1519927702969063271 : True := trivial
theorem tw17644181745481072423 : True := trivial
theorem tw18178676814319149831 : True := trivial
theorem tw16519101796099990279 : True := trivial
theorem tw65644731488775911 : True := trivial
theorem tw11135027115929721415 : True := trivial
theorem tw16965079339398995527 : True := trivial
theorem tw8475525182357872103 : True := trivial
theorem tw13350764725976880583 : True := trivial
theorem tw5061512775090418087 : True := trivial
theorem tw6370693359617921383 : True := trivial
theorem tw12653679108036650311 : True := trivial
theorem tw12518504611687188807 : True := trivial
theorem tw13465503431842376007 : True := trivial
theorem tw5372645768047454471 : True := trivial
theorem tw11716418206903941319 : True := trivial
theorem tw15514936471743626214 : True := trivial
theorem tw17272174723667511238 : True := trivial
theorem tw12909650291622432550 : True := trivial
theorem tw2852251193174398662 : True := trivial
theorem tw9681375758050803366 : True := trivial
theorem tw471287901995484742 : True := trivial
theorem tw17297283025540448806 : True := trivial
theorem tw7273056430967151046 : True := trivial
theorem tw18348225061392586150 : True := trivial
theorem tw16952715711813285254 : True := trivial
theorem tw10707853282979444102 : True := trivial
theorem tw6511744376749373798 : True := trivial
theorem tw4458048076830672230 : True := trivial
theorem tw12298629886278197574 : True := trivial
theorem tw10750994468655217958 : True := trivial
theorem tw11554813239044494598 : True := trivial
theorem tw14079133448124963078 : True := trivial
theorem tw6639522245352263942 : True := trivial
theorem tw13597483153833180358 : True := trivial
theorem tw16411370214107742406 : True := trivial
theorem tw15350898050860989542 : True := trivial
theorem tw8228058824784995430 : True := trivial
theorem tw365850788961202214 : True := trivial
theorem tw14646587721710459877 : True := trivial
theorem tw2456247091588846565 : True := trivial
theorem tw13402765919934010277 : True := trivial
theorem tw16806246253224384389 : True := trivial
theorem tw5665406974723832613 : True := trivial
theorem tw1714950047550659301 : True := trivial
theorem tw14759895335926876869 : True := trivial
theorem tw16544489699163171333 : True := trivial
theorem tw7083192437325867461 : True := trivial
theorem tw8467378866343419333 : True := trivial
theorem tw16451033083921036709 : True := trivial
theorem tw9253799994812790149 : True := trivial
theorem tw2906824675625879941 : True := trivial
theorem tw10149618387772673413 : True := trivial
theorem tw10953687544409504101 : True := trivial
theorem tw917386388269078853 : True := trivial
theorem tw14662554035588321541 : True := trivial
theorem tw9190990891756207365 : True := trivial
theorem tw12623159325031504133 : True := trivial
theorem tw8211959896082780389 : True := trivial
theorem tw15277975159832343749 : True := trivial
theorem tw11001617756164336837 : True := trivial
theorem tw6910295442248876197 : True := trivial
theorem tw14364048958407549093 : True := trivial
theorem tw12974819211118642341 : True := trivial
theorem tw15955573374722617477 : True := trivial
theorem tw5234446048077146213 : True := trivial
theorem tw8947760058931562597 : True := trivial
theorem tw8260724100714396741 : True := trivial
theorem tw15017983477296125989 : True := trivial
theorem tw9417822746687237092 : True := trivial
theorem tw834873547066669988 : True := trivial
theorem tw12252054271945606052 : True := trivial
theorem tw9756827057097773860 : True := trivial
theorem tw14539993770535171780 : True := trivial
theorem tw9840939614602229412 : True := trivial
theorem tw12222963475772708484 : True := trivial
theorem tw1587290215689348708 : True := trivial
theorem tw10663580350406149668 : True := trivial
theorem tw7113585516715319716 : True := trivial
theorem tw2729793432009153956 : True := trivial
theorem tw13313126695403321540 : True := trivial
theorem tw962032349192862916 : True := trivial
theorem tw7214478077546791972 : True := trivial
theorem tw11857135199678951331 : True := trivial
theorem tw17146568849442343683 : True := trivial
theorem tw387501639795913443 : True := trivial
theorem tw49674306023711395 : True := trivial
theorem tw8466321980469482115 : True := trivial
theorem tw17403364634526059139 : True := trivial
theorem tw12702744160499308131 : True := trivial
theorem tw5837888446457221635 : True := trivial
theorem tw4475767826048309731 : True := trivial
theorem tw2647654807098235363 : True := trivial
theorem tw14771111431291430275 : True := trivial
theorem tw4605139254293405059 : True := trivial
theorem tw15558288988949320067 : True := trivial
theorem tw13406003279186336099 : True := trivial
theorem tw10609540516017602915 : True := trivial
theorem tw9957550378297406723 : True := trivial
theorem tw4900431672193113347 : True := trivial
theorem tw3626430660855392483 : True := trivial
theorem tw2007339730380871907 : True := trivial
theorem tw2334679739580974275 : True := trivial
theorem tw4817600198373253283 : True := trivial
theorem tw15467891735981029475 : True := trivial
theorem tw11409991511011244131 : True := trivial
theorem tw13224007501803129859 : True := trivial
theorem tw14666387041718499266 : True := trivial
theorem tw6508729118710982530 : True := trivial
theorem tw961187720498965250 : True := trivial
theorem tw6385024630547198690 : True := trivial
theorem tw11785714552879321826 : True := trivial
theorem tw6075091234017535682 : True := trivial
theorem tw16950194794029067938 : True := trivial
theorem tw1142173933681417890 : True := trivial
theorem tw4297412468100583042 : True := trivial
theorem tw1306636233014830658 : True := trivial
theorem tw14907226015203709474 : True := trivial
theorem tw7298748307773712898 : True := trivial
theorem tw9302470337196694018 : True := trivial
theorem tw16756631487020416482 : True := trivial
theorem tw12139096438432415106 : True := trivial
theorem tw5613160597433933154 : True := trivial
theorem tw7411558596216406370 : True := trivial
theorem tw15303317825217679618 : True := trivial
theorem tw4038153913678941442 : True := trivial
theorem tw223528310411579522 : True := trivial
theorem tw11987853993630220354 : True := trivial
theorem tw6389877041954997217 : True := trivial
theorem tw15109750227778091905 : True := trivial
theorem tw4638281056170512193 : True := trivial
theorem tw15624239662980076321 : True := trivial
theorem tw15365013842991253249 : True := trivial
theorem tw12077450504624328385 : True := trivial
theorem tw16193401482309157537 : True := trivial
theorem tw1242282695825638017 : True := trivial
theorem tw6635558491612396129 : True := trivial
theorem tw9406782406253462049 : True := trivial
theorem tw6907636171062424033 : True := trivial
theorem tw15768048840197415361 : True := trivial
theorem tw9376575566392132001 : True := trivial
theorem tw14216407083858561409 : True := trivial
theorem tw13110577991587790113 : True := trivial
theorem tw3370190323706015969 : True := trivial
theorem tw13676971244355772609 : True := trivial
theorem tw17715262827843222689 : True := trivial
theorem tw6214117541549086881 : True := trivial
theorem tw4413345314126155841 : True := trivial
theorem tw17402982504261768225 : True := trivial
theorem tw17292155258170135553 : True := trivial
theorem tw3627144658338631552 : True := trivial
theorem tw3796207824708393856 : True := trivial
theorem tw221546546901971840 : True := trivial
theorem tw6557543464795787104 : True := trivial
theorem tw16508919721030705984 : True := trivial
theorem tw1027651156746619712 : True := trivial
theorem tw12747388180105724736 : True := trivial
theorem tw12483276189755474720 : True := trivial
theorem tw9808303207383738048 : True := trivial
theorem tw2663023399769592480 : True := trivial
theorem tw7439787175107056256 : True := trivial
theorem tw6541472054586571296 : True := trivial
theorem tw11501822485730972192 : True := trivial
theorem tw1677766988990989824 : True := trivial
theorem tw9976160756891316704 : True := trivial
theorem tw5084117380071580128 : True := trivial
theorem tw4491334807805099456 : True := trivial
theorem tw12463224122652932544 : True := trivial
theorem tw6981815665589151136 : True := trivial
theorem tw13157206579259725088 : True := trivial
theorem tw15438212644395081984 : True := trivial
theorem tw11774690029378154688 : True := trivial
theorem tw11003572833241299968 : True := trivial
theorem tw1054321117371714560 : True := trivial
theorem tw12537079458326881932 : True := trivial
end main
set_option Elab.async true in
theorem main : PySem.Challenge.rw_pq0472_01.Holds := by
  w_on; o_law; k_head
  (case hw => w_witness2)
  k_fill
  have hPart : PartOk Mine.main.heap_1_39 Mine.main.view_1_40 (looseW Mine.main.view_1_40 [Str.ofString "GateloomError", Str.ofString "vec"]) := partOk Mine.main.view_1_40 (looseW Mine.main.view_1_40 [Str.ofString "GateloomError", Str.ofString "vec"])
  have hMemory : MemoryOk Mine.main.heap_1_39 Mine.main.view_1_40 (looseW Mine.main.view_1_40 [Str.ofString "GateloomError", Str.ofString "vec"]) := memoryOk Mine.main.view_1_40 (looseW Mine.main.view_1_40 [Str.ofString "GateloomError", Str.ofString "vec"])
  have hClay : ClayOk Mine.main.heap_1_39 Mine.main.view_1_40 (looseW Mine.main.view_1_40 [Str.ofString "GateloomError", Str.ofString "vec"]) := clayOk Mine.main.view_1_40 (looseW Mine.main.view_1_40 [Str.ofString "GateloomError", Str.ofString "vec"])
  w_strict (k_go0; (all_goals try k_fold); (k_steps; repeat' (refine Halt.on ?_; first | ((with_reducible show wpAny _ _ (call (Value.ref 754) [Value.ref _]) _ _ _); (with_reducible rename PartOk _ _ _ => hC754); k_dflt ( refine' ClayC.use (hC754 _ _ _ _) ?zk1 ?zk2 ?zk3 ?zk4 ?zk5 ?zkK ?zkU ?zkI ?zkl ?zkp ?zkd ?zku ?_; (case zk1 => k_asm); (case zk2 => k_asm); (case zk3 => k_asm); (case zk4 => k_asm); (case zk5 => k_asm); (case zkK => first | exact rfl | assumption); (case zkU => k_updF); (case zkI => with_reducible assumption); (case zkl => first | assumption | omega); (case zkp => exact trivial); (case zkd => ktr_room); (case zku => ktr_units); k_whole; intro v9 h9 tk9 vs9 ns9 n9 hv9 hI9 hl9 F9 N9; subst hv9; (try dsimp only at N9); (try dsimp only); (try k_sweep); (try k_fold)); all_goals k_steps) | ((with_reducible show wpAny _ _ (call (Value.ref 747) [Value.ref _]) _ _ _); (with_reducible rename MemoryOk _ _ _ => hC747); k_dflt ( refine' ClayC.use (hC747 _ _ _ _) ?zk1 ?zk2 ?zk3 ?zk4 ?zk5 ?zkK ?zkU ?zkI ?zkl ?zkp ?zkd ?zku ?_; (case zk1 => k_asm); (case zk2 => k_asm); (case zk3 => k_asm); (case zk4 => k_asm); (case zk5 => k_asm); (case zkK => first | exact rfl | assumption); (case zkU => k_updF); (case zkI => with_reducible assumption); (case zkl => first | assumption | omega); (case zkp => exact trivial); (case zkd => ktr_room); (case zku => ktr_units); k_whole; intro v9 h9 tk9 vs9 ns9 n9 hv9 hI9 hl9 F9 N9; subst hv9; (try dsimp only at N9); (try dsimp only); (try k_sweep); (try k_fold)); all_goals k_steps) | ((with_reducible show wpAny _ _ (call (Value.ref 726) [Value.ref _]) _ _ _); (with_reducible rename ClayOk _ _ _ => hC1); k_dflt ( refine' ClayOk.use hC1 ?zk1 ?zk2 ?zk3 ?zk4 ?zk5 ?zkK ?zn ?zl ?zI ?zkd ?zku ?_; (case zk1 => k_asm); (case zk2 => k_asm); (case zk3 => k_asm); (case zk4 => k_asm); (case zk5 => k_asm); (case zkK => exact rfl); (case zl => assumption); (case zI => assumption); (case zn => omega); (case zkd => ktr_room); (case zku => ktr_units); k_whole; intro x9 h9 tk9 vs9 ns9 n9 hI9 hl9 F9 N9 l9; (try k_lt l9); (try dsimp only); (try k_sweep); (try k_fold)); all_goals k_steps))))
end Mine
theorem PySem.Challenge.cw_pq0472_01_holds : PySem.Challenge.rw_pq0472_01.Holds := by
  exact Mine.main
