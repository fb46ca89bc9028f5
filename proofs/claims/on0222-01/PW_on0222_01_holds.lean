import PyProof.Rows.All
import Wide.All
import OpenK.AllK
import Wide.FinOn
import PySem.Challenge.RW_on0222_01
open PySem PySem.W PyProof.Rows
set_option Elab.async false
namespace Mine
set_option maxRecDepth 100000 in
set_option maxHeartbeats 8000000 in
set_option synthInstance.maxSize 1 in
open_top hd for PySem.Challenge.rw_on0222_01
theorem top_off : True := by
  w_top off
  trivial
section
abbrev Led := List (Addr × Obj)

def Split (news l tl : Led) : Prop := ∀ p ∈ news ++ tl, p ∈ l
theorem Split.base {news tl : Led} : Split news (news ++ tl) tl := fun _ h => h
theorem Split.base0 {news : Led} : Split news news [] := fun p h => by simpa using h
theorem Split.skip {news l tl : Led} {e : Addr × Obj} (h : Split news l tl) : Split news (e :: l) (e :: tl) := fun p hp => by
  rcases List.mem_append.mp hp with hp | hp
  · exact .tail _ (h p (List.mem_append.mpr (.inl hp)))
  · rcases List.mem_cons.mp hp with rfl | hp
    · exact .head _
    · exact .tail _ (h p (List.mem_append.mpr (.inr hp)))
def Ord (news tl : Led) : Prop := ∀ q ∈ news, ∀ p ∈ tl, q.1 < p.1
theorem Ord.nil {news : Led} : Ord news [] := fun _ _ _ h => nomatch h
theorem Ord.cons {news tl : Led} {D : Addr} {o : Obj} (h : AllLt D news) (k : Ord news tl) : Ord news ((D, o) :: tl) := by
  intro q hq p hp
  rcases List.mem_cons.mp hp with rfl | hp
  · exact ktn_ltOf h q hq
  · exact k q hq p hp
theorem Ord.app {news tl tl' : Led} (h : Ord news tl) (k : Ord news tl') : Ord news (tl ++ tl') := by
  intro q hq p hp
  rcases List.mem_append.mp hp with hp | hp
  · exact h q hq p hp
  · exact k q hq p hp
theorem Ord.sub {news big tl : Led} (h : Ord big tl) (k : ∀ p ∈ news, p ∈ big) : Ord news tl := fun q hq => h q (k q hq)
theorem allLt_append {D : Addr} {a b : Led} : AllLt D (a ++ b) ↔ AllLt D a ∧ AllLt D b := by
  induction a with
  | nil => simp [AllLt]
  | cons p r ih => simp only [List.cons_append, AllLt, ih, and_assoc]
theorem allLt_iff {D : Addr} {a : Led} : (∀ p ∈ a, p.1 < D) ↔ AllLt D a := ⟨allLt_of, fun h p hp => ktn_ltOf h p hp⟩


section
variable {D : Addr} {l t : Led} {a b c d e f : Prop}
theorem alt1 (h : a ∧ AllLt D l) : AllLt D l := h.2
theorem alt2 (h : a ∧ b ∧ AllLt D l) : AllLt D l := h.2.2
theorem alt3 (h : a ∧ b ∧ c ∧ AllLt D l) : AllLt D l := h.2.2.2
theorem alt4 (h : a ∧ b ∧ c ∧ d ∧ AllLt D l) : AllLt D l := h.2.2.2.2
theorem alt5 (h : a ∧ b ∧ c ∧ d ∧ e ∧ AllLt D l) : AllLt D l := h.2.2.2.2.2
theorem alt6 (h : a ∧ b ∧ c ∧ d ∧ e ∧ f ∧ AllLt D l) : AllLt D l := h.2.2.2.2.2.2
theorem altA (h : AllLt D (l ++ t)) : AllLt D l := (allLt_append.mp h).1
theorem altB (h : ∀ p ∈ l ++ t, p.1 < D) : AllLt D l := (allLt_append.mp (allLt_of h)).1
end
theorem sub_cons {src l : Led} {e : Addr × Obj} (h : ∀ p ∈ src, p ∈ l) : ∀ p ∈ src, p ∈ e :: l := fun p hp => .tail _ (h p hp)
theorem sub_appR {src l r : Led} (h : ∀ p ∈ src, p ∈ r) : ∀ p ∈ src, p ∈ l ++ r := fun p hp => List.mem_append.mpr (.inr (h p hp))
theorem sub_appL {src l r : Led} (h : ∀ p ∈ src, p ∈ l) : ∀ p ∈ src, p ∈ l ++ r := fun p hp => List.mem_append.mpr (.inl (h p hp))
def Says (Out : Led → Value → Prop) (l : Led) (r : Value) : Prop := Out l r
/-- the def at f, called on vs over a ledger that holds news, gives back a value of which Out is so over keep and what was made; all that stood stands -/
@[irreducible] def Gives (w : World) (mean : ExcName → Option Value) (mg mb : Str → Option Value) (n : Nat) (f : Addr) (news keep : Led) (vs : List Value) (Out : Led → Value → Prop) : Prop :=
  ∀ (dp un : Nat) (gd : Option (List Code)) (cn : Str) (cs : Scope) (a : Addr) (ccd : Value) (cl : List (Str × Addr)) (outer : List Env) (A₀ : Around) (base h₀ : Heap) (L : Addr) (m : Str → Option Value) (s : Shared) (nw : Led)
    (Q E : Value → Shared → Prop),
    Below A₀ base outer h₀ → Fr h₀ L s.heap m → (hd.heap_39 w.params).In h₀ → News h₀ L s.heap nw → Top hd.view_39 (looseW hd.view_39 [Str.ofString "fraction", Str.ofString "direction"]) mean mg mb h₀ → cs.kind = .function → (∀ p ∈ news, p ∈ nw) → dp + n < recursionLimit → un + 8 * n < cLine →
    (∀ r tl h' tk', Fr h₀ L h' m → News h₀ L h' (nw ++ tl) → Ord nw tl → Says Out (keep ++ tl) r → Q r { s with heap := h', toks := tk' }) →
    wpAny (model PySem.Challenge.rw_on0222_01.row.prog w) (ktrTop dp un gd cn cs L a ccd cl outer) (call (.ref f) vs) Q E s

section
variable {w : World} {mean : ExcName → Option Value} {mg mb : Str → Option Value} {n : Nat} {f : Addr} {news keep : Led} {vs : List Value} {Out : Led → Value → Prop}
theorem Gives.use {dp un : Nat} {gd : Option (List Code)} {cn : Str} {cs : Scope} {a : Addr} {ccd : Value} {cl : List (Str × Addr)} {outer : List Env} {A₀ : Around} {base h₀ : Heap} {L : Addr} {m : Str → Option Value} {s : Shared} {nw : Led}
    {Q E : Value → Shared → Prop} (B : Below A₀ base outer h₀) (F : Fr h₀ L s.heap m) (X : (hd.heap_39 w.params).In h₀) (N : News h₀ L s.heap nw) (T : Top hd.view_39 (looseW hd.view_39 [Str.ofString "fraction", Str.ofString "direction"]) mean mg mb h₀) (hk : cs.kind = .function)
    (C : Gives w mean mg mb n f news keep vs Out) (hn : ∀ p ∈ news, p ∈ nw) (hd : dp + n < recursionLimit) (hu : un + 8 * n < cLine)
    (ret : ∀ r tl h' tk', Fr h₀ L h' m → News h₀ L h' (tl ++ nw) → Ord nw tl → Says Out (keep ++ tl) r → Q r { s with heap := h', toks := tk' }) :
    wpAny (model PySem.Challenge.rw_on0222_01.row.prog w) (ktrTop dp un gd cn cs L a ccd cl outer) (call (.ref f) vs) Q E s := by
  unfold Gives at C
  exact C _ _ _ _ _ _ _ _ _ _ _ _ _ _ _ _ _ _ B F X N T hk hn hd hu fun r tl h' tk' F' N' o y => ret r tl h' tk' F' (cb_drop N' fun p hp => List.mem_append.mpr (List.mem_append.mp hp).symm) o y

theorem Gives.useI {g : Int} {dp un : Nat} {gd : Option (List Code)} {cn : Str} {cs : Scope} {a : Addr} {ccd : Value} {cl : List (Str × Addr)} {outer : List Env} {A₀ : Around} {base h₀ : Heap} {L : Addr} {m : Str → Option Value} {s : Shared} {nw : Led}
    {Q E : Value → Shared → Prop} (B : Below A₀ base outer h₀) (F : Fr h₀ L s.heap m) (X : (hd.heap_39 w.params).In h₀) (N : News h₀ L s.heap nw) (T : Top hd.view_39 (looseW hd.view_39 [Str.ofString "fraction", Str.ofString "direction"]) mean mg mb h₀) (hk : cs.kind = .function)
    (C : Gives w mean mg mb n f news keep vs (fun _ r => ∃ t, r = .int g t)) (hn : ∀ p ∈ news, p ∈ nw) (hd : dp + n < recursionLimit) (hu : un + 8 * n < cLine)
    (ret : ∀ t h' tk', Fr h₀ L h' m → News h₀ L h' nw → Q (.int g t) { s with heap := h', toks := tk' }) :
    wpAny (model PySem.Challenge.rw_on0222_01.row.prog w) (ktrTop dp un gd cn cs L a ccd cl outer) (call (.ref f) vs) Q E s :=
  C.use B F X N T hk hn hd hu fun r tl h' tk' F' N' _ ho => by
    obtain ⟨t, rfl⟩ := ho
    exact ret t h' tk' F' (cb_drop N' fun p hp => List.mem_append.mpr (.inr hp))

theorem Gives.useB {g : Bool} {dp un : Nat} {gd : Option (List Code)} {cn : Str} {cs : Scope} {a : Addr} {ccd : Value} {cl : List (Str × Addr)} {outer : List Env} {A₀ : Around} {base h₀ : Heap} {L : Addr} {m : Str → Option Value} {s : Shared} {nw : Led}
    {Q E : Value → Shared → Prop} (B : Below A₀ base outer h₀) (F : Fr h₀ L s.heap m) (X : (hd.heap_39 w.params).In h₀) (N : News h₀ L s.heap nw) (T : Top hd.view_39 (looseW hd.view_39 [Str.ofString "fraction", Str.ofString "direction"]) mean mg mb h₀) (hk : cs.kind = .function)
    (C : Gives w mean mg mb n f news keep vs (fun _ r => r = .bool g)) (hn : ∀ p ∈ news, p ∈ nw) (hd : dp + n < recursionLimit) (hu : un + 8 * n < cLine)
    (ret : ∀ h' tk', Fr h₀ L h' m → News h₀ L h' nw → Q (.bool g) { s with heap := h', toks := tk' }) :
    wpAny (model PySem.Challenge.rw_on0222_01.row.prog w) (ktrTop dp un gd cn cs L a ccd cl outer) (call (.ref f) vs) Q E s :=
  C.use B F X N T hk hn hd hu fun r tl h' tk' F' N' _ ho => by
    subst ho
    exact ret h' tk' F' (cb_drop N' fun p hp => List.mem_append.mpr (.inr hp))
theorem Gives.useD {d : Dat} {dp un : Nat} {gd : Option (List Code)} {cn : Str} {cs : Scope} {a : Addr} {ccd : Value} {cl : List (Str × Addr)} {outer : List Env} {A₀ : Around} {base h₀ : Heap} {L : Addr} {m : Str → Option Value} {s : Shared} {nw : Led}
    {Q E : Value → Shared → Prop} (B : Below A₀ base outer h₀) (F : Fr h₀ L s.heap m) (X : (hd.heap_39 w.params).In h₀) (N : News h₀ L s.heap nw) (T : Top hd.view_39 (looseW hd.view_39 [Str.ofString "fraction", Str.ofString "direction"]) mean mg mb h₀) (hk : cs.kind = .function)
    (C : Gives w mean mg mb n f news keep vs (fun l r => DatIn l r d)) (hn : ∀ p ∈ news, p ∈ nw) (hd : dp + n < recursionLimit) (hu : un + 8 * n < cLine)
    (ret : ∀ r tl h' tk', Fr h₀ L h' m → News h₀ L h' (tl ++ nw) → Ord nw tl → DatIn (keep ++ tl) r d → Q r { s with heap := h', toks := tk' }) :
    wpAny (model PySem.Challenge.rw_on0222_01.row.prog w) (ktrTop dp un gd cn cs L a ccd cl outer) (call (.ref f) vs) Q E s :=
  Gives.use B F X N T hk C hn hd hu ret
end

section
variable {h₀ h' : Heap} {L : Addr} {m : Str → Option Value} {nw keep news' : Led} {s : Shared} {Q : Value → Shared → Prop} {Out : Led → Value → Prop} {r : Value} {tk' : Nat}
theorem gend0 (hret : ∀ r tl h' tk', Fr h₀ L h' m → News h₀ L h' (nw ++ tl) → Ord nw tl → Says Out (keep ++ tl) r → Q r { s with heap := h', toks := tk' })
    (F : Fr h₀ L h' m) (N : News h₀ L h' news') (hs : ∀ p ∈ nw, p ∈ news') (out : Says Out (keep ++ []) r) : Q r { s with heap := h', toks := tk' } :=
  hret r [] h' tk' F (by rw [List.append_nil]; exact cb_drop N hs) (fun _ _ _ h => nomatch h) out
theorem gend {tl : Led} (hret : ∀ r tl h' tk', Fr h₀ L h' m → News h₀ L h' (nw ++ tl) → Ord nw tl → Says Out (keep ++ tl) r → Q r { s with heap := h', toks := tk' })
    (F : Fr h₀ L h' m) (N : News h₀ L h' news') (hs : Split nw news' tl) (ho : Ord nw tl) (out : Says Out (keep ++ tl) r) : Q r { s with heap := h', toks := tk' } :=
  hret r tl h' tk' F (cb_drop N hs) ho out
end
theorem Split.drop {news l tl : Led} {e : Addr × Obj} (h : Split news l tl) : Split news (e :: l) tl := fun p hp => .tail _ (h p hp)
theorem Split.own {news l tl own : Led} (h : Split news l tl) : Split news (own ++ l) tl := fun p hp => List.mem_append.mpr (.inr (h p hp))
theorem Split.app {news l tl own : Led} (h : Split news l tl) : Split news (own ++ l) (own ++ tl) := fun p hp => by
  rcases List.mem_append.mp hp with hp | hp
  · exact List.mem_append.mpr (.inr (h p (List.mem_append.mpr (.inl hp))))
  · rcases List.mem_append.mp hp with hp | hp
    · exact List.mem_append.mpr (.inl hp)
    · exact List.mem_append.mpr (.inr (h p (List.mem_append.mpr (.inr hp))))
theorem Split.appO {b news l tl own : Led} (_ : Ord b own) (h : Split news l tl) : Split news (own ++ l) (own ++ tl) := Split.app h
theorem Ord.lt {news big tl : Led} {D : Addr} {o : Obj} (h : AllLt D big) (s : ∀ p ∈ news, p ∈ big) (k : Ord news tl) : Ord news ((D, o) :: tl) :=
  Ord.cons (allLt_of fun p hp => ktn_ltOf h p (s p hp)) k

section
variable {big tl l src : Led} {d E : Addr} {o o' : Obj}
theorem upd_app {xs r r' : Led} (h : ∀ p ∈ xs, p.1 ≠ d) (k : Upd d o o' r r') : Upd d o o' (xs ++ r) (xs ++ r') := by
  induction xs with
  | nil => exact k
  | cons p xs ih => exact Upd.tail (h p (.head _)) (ih fun q hq => h q (.tail _ hq))
theorem off_lt (h : AllLt d big) (s : ∀ p ∈ src, p ∈ big) : ∀ p ∈ src, p.1 ≠ d := fun p hp => Nat.ne_of_lt (ktn_ltOf h p (s p hp))
theorem updF_app {xs r : Led} {g : Obj → Led} (h : ∀ p ∈ xs, p.1 ≠ d) (k : UpdF d o r g) : UpdF d o (xs ++ r) (fun o' => xs ++ g o') := by
  induction xs with
  | nil => exact k
  | cons p xs ih => exact UpdF.tail (h p (.head _)) (ih fun q hq => h q (.tail _ hq))
theorem off_le {e : Addr} (h : AllLt e big) (s : ∀ p ∈ src, p ∈ big) (k : @LE.le Nat _ e d) : ∀ p ∈ src, p.1 ≠ d := fun p hp => Nat.ne_of_lt (Nat.lt_of_lt_of_le (ktn_ltOf h p (s p hp)) k)
theorem off_gt (h : Ord big tl) (m : (d, o) ∈ big) : ∀ p ∈ tl, p.1 ≠ d := fun p hp => Nat.ne_of_gt (h _ m p hp)
theorem ne_gt (h : AllLt E big) (m : (d, o) ∈ big) : E ≠ d := Nat.ne_of_gt (ktn_ltOf h _ m)
theorem ne_lt (h : AllLt d big) (m : (E, o) ∈ big) : E ≠ d := Nat.ne_of_lt (ktn_ltOf h _ m)
end
theorem Ord.le {news big tl : Led} {D e : Addr} {o : Obj} (h : AllLt e big) (s : ∀ p ∈ news, p ∈ big) (le : @LE.le Nat _ e D) (k : Ord news tl) : Ord news ((D, o) :: tl) :=
  Ord.cons (allLt_of fun p hp => Nat.lt_of_lt_of_le (ktn_ltOf h p (s p hp)) le) k
/-- a fraction, a point, a curve as Python's tuples -/
def qd (q : Rat) : Dat := .tuple [.int q.num, .int q.den]
def pd (p : Rat × Rat) : Dat := .tuple [qd p.1, qd p.2]
def cvd (c : List (Rat × Rat)) : Dat := .tuple (c.map pd)

theorem tup_open {n : Led} {v : Value} {ds : List Dat} (h : DatIn n v (.tuple ds)) : ∃ a k vs, v = .ref a ∧ (a, ({ cls := .type "tuple", data := .seq (List.toArray vs) k } : Obj)) ∈ n ∧ DatAll n vs ds := by
  cases h with
  | tuple hm r => exact ⟨_, _, _, rfl, hm, r⟩
theorem int_open {n : Led} {v : Value} {i : Int} (h : DatIn n v (.int i)) : ∃ t, v = .int i t := by
  cases h with
  | int => exact ⟨_, rfl⟩
theorem dall_cons {n : Led} {vs : List Value} {d : Dat} {ds : List Dat} (h : DatAll n vs (d :: ds)) : ∃ v r, vs = v :: r ∧ DatIn n v d ∧ DatAll n r ds := by
  cases h with
  | cons h1 h2 => exact ⟨_, _, rfl, h1, h2⟩
theorem dall_nil {n : Led} {vs : List Value} (h : DatAll n vs []) : vs = [] := by cases h; rfl
theorem two_open {n : Led} {v : Value} {d e : Dat} (h : DatIn n v (.tuple [d, e])) : ∃ a k x y, v = .ref a ∧ (a, ({ cls := .type "tuple", data := .seq #[x, y] k } : Obj)) ∈ n ∧ DatIn n x d ∧ DatIn n y e :=
  let ⟨a, k, _, e1, hm, r⟩ := tup_open h
  let ⟨x, _, e2, hx, r⟩ := dall_cons r
  let ⟨y, _, e3, hy, r⟩ := dall_cons r
  ⟨a, k, x, y, e1, by rw [e2, e3, dall_nil r] at hm; exact hm, hx, hy⟩
theorem qd_open {news : Led} {v : Value} {q : Rat} (h : DatIn news v (qd q)) :
    ∃ (a : Addr) (n : Nat) (t1 t2 : Tok), v = .ref a ∧ (a, ({ cls := .type "tuple", data := .seq #[.int q.num t1, .int q.den t2] n } : Obj)) ∈ news :=
  let ⟨a, k, _, _, e, hm, h1, h2⟩ := two_open h
  let ⟨t1, e1⟩ := int_open h1
  let ⟨t2, e2⟩ := int_open h2
  ⟨a, k, t1, t2, e, e1 ▸ e2 ▸ hm⟩
theorem pd_open {news : Led} {v : Value} {p : Rat × Rat} (h : DatIn news v (pd p)) :
    ∃ (a : Addr) (n : Nat) (vx vy : Value), v = .ref a ∧ (a, ({ cls := .type "tuple", data := .seq #[vx, vy] n } : Obj)) ∈ news ∧ DatIn news vx (qd p.1) ∧ DatIn news vy (qd p.2) := two_open h

/-- size in bits -/
@[irreducible] def Bits (n : Nat) (x : Int) : Prop := x.natAbs < 2 ^ n
theorem Bits.of {n : Nat} {x : Int} (h : x.natAbs < 2 ^ n) : Bits n x := by unfold Bits; exact h
theorem Bits.lt {n : Nat} {x : Int} (h : Bits n x) : x.natAbs < 2 ^ n := by unfold Bits at h; exact h
theorem Bits.ok {n m : Nat} {x y : Int} (hx : Bits n x) (hy : Bits m y) (h : n + m ≤ 100000000) : IntMulOk x y := by
  have b : ∀ {n : Nat} {x : Int}, Bits n x → Builtin.Int.intBits x ≤ n := by
    intro n x h
    unfold Builtin.Int.intBits
    split
    · exact Nat.zero_le _
    · rename_i h0
      have h1 : x.natAbs ≠ 0 := by
        intro e
        apply h0
        have : x = 0 := by omega
        subst this
        rfl
      have := (Nat.log2_lt h1).mpr h.lt
      omega
  have bx := b hx
  have by' := b hy
  unfold IntMulOk
  intro hc
  simp only [Bool.and_eq_true, decide_eq_true_eq] at hc
  have h3 := hc.2
  unfold Builtin.Int.intTooBig at h3
  simp only [bitsLine_eq, decide_eq_true_eq] at h3
  omega
def Bd (n : Nat) (q : Rat) : Prop := Bits n q.num ∧ Bits n q.den
end
section
/-! ## expressions that make nothing: evaluated at one stroke -/
structure Ev (prog : Program) (w : World) (A : Around) (env : Env) (h : Heap) (e : PySem.Expr) (P : Value → Prop) : Prop where
  run : ∀ (s : Shared) (Q E : Value → Shared → Prop), s.heap = h → (∀ v tk, P v → Q v { s with toks := tk }) → wpAny (model prog w) A (eval e env) Q E s
def IsI (x : Int) (v : Value) : Prop := ∃ t, v = .int x t
def IsV (u v : Value) : Prop := v = u
section
variable {prog : Program} {w : World} {A : Around} {env : Env} {h : Heap} {e1 e2 e3 : PySem.Expr} {p : Pos} {x y : Int}
theorem ev_int {k : Nat} : Ev prog w A env h (.Constant (.int x) k p) (IsI x) := ⟨fun _ _ _ _ q => wpAny_Constant_int (q _ _ ⟨_, rfl⟩)⟩
theorem ev_add (h1 : Ev prog w A env h e1 (IsI x)) (h2 : Ev prog w A env h e2 (IsI y)) : Ev prog w A env h (.BinOp e1 .Add e2 p) (IsI (x + y)) := ⟨fun s _ _ e q =>
  wpAny_BinOp (h1.run s _ _ e fun v tk hv => by
    obtain ⟨t, rfl⟩ := hv
    exact h2.run _ _ _ e fun u tk2 hu => by
      obtain ⟨t2, rfl⟩ := hu
      exact add_int (q _ _ ⟨_, rfl⟩))⟩
theorem ev_sub (h1 : Ev prog w A env h e1 (IsI x)) (h2 : Ev prog w A env h e2 (IsI y)) : Ev prog w A env h (.BinOp e1 .Sub e2 p) (IsI (x - y)) := ⟨fun s _ _ e q =>
  wpAny_BinOp (h1.run s _ _ e fun v tk hv => by
    obtain ⟨t, rfl⟩ := hv
    exact h2.run _ _ _ e fun u tk2 hu => by
      obtain ⟨t2, rfl⟩ := hu
      exact sub_int (q _ _ ⟨_, rfl⟩))⟩
theorem ev_mul (h1 : Ev prog w A env h e1 (IsI x)) (h2 : Ev prog w A env h e2 (IsI y)) (hm : IntMulOk x y) : Ev prog w A env h (.BinOp e1 .Mult e2 p) (IsI (x * y)) := ⟨fun s _ _ e q =>
  wpAny_BinOp (h1.run s _ _ e fun v tk hv => by
    obtain ⟨t, rfl⟩ := hv
    exact h2.run _ _ _ e fun u tk2 hu => by
      obtain ⟨t2, rfl⟩ := hu
      exact mul_int (q _ _ ⟨_, rfl⟩) hm)⟩
theorem ev_neg (h1 : Ev prog w A env h e1 (IsI x)) : Ev prog w A env h (.UnaryOp .USub e1 p) (IsI (-x)) := ⟨fun s _ _ e q =>
  wpAny_UnaryOp (h1.run s _ _ e fun v tk hv => by
    obtain ⟨t, rfl⟩ := hv
    exact neg_int (q _ _ ⟨_, rfl⟩))⟩
theorem ev_runI {s : Shared} {Q E : Value → Shared → Prop} (h1 : Ev prog w A env s.heap e1 (IsI x)) (q : ∀ t tk, Q (.int x t) { s with toks := tk }) : wpAny (model prog w) A (eval e1 env) Q E s := h1.run s Q E rfl fun v tk hv => by
  obtain ⟨t, rfl⟩ := hv
  exact q t tk
theorem ev_runV {s : Shared} {v : Value} {Q E : Value → Shared → Prop} (h1 : Ev prog w A env s.heap e1 (IsV v)) (q : ∀ tk, Q v { s with toks := tk }) : wpAny (model prog w) A (eval e1 env) Q E s := h1.run s Q E rfl fun u tk hv => by
  cases hv
  exact q tk
end
section
variable {prog : Program} {w : World} {A : Around} {h h₀ : Heap} {L a : Addr} {m : Str → Option Value} {cn : Str} {cs : Scope} {ccd : Value} {cl : List (Str × Addr)} {x : Str} {p : Pos} {v : Value}
theorem ev_name (F : Fr h₀ L h m) (hv : m x = some v) (hk : cs.kind = .function) (hx : (envX cn cs L a ccd cl).kindOf x = some .local) (hd : (x == ("__debug__" : Str)) = false) : Ev prog w A (envX cn cs L a ccd cl) h (.Name x p) (IsV v) := ⟨fun s _ _ e q => by
  subst e
  exact nameX_L F hv (q _ _ rfl) hk hx hd⟩
theorem ev_nameI {i : Int} {t : Tok} (F : Fr h₀ L h m) (hv : m x = some (.int i t)) (hk : cs.kind = .function) (hx : (envX cn cs L a ccd cl).kindOf x = some .local) (hd : (x == ("__debug__" : Str)) = false) : Ev prog w A (envX cn cs L a ccd cl) h (.Name x p) (IsI i) := ⟨fun s _ _ e q => by
  subst e
  exact nameX_L F hv (q _ _ ⟨_, rfl⟩) hk hx hd⟩
end
section
variable {prog : Program} {w : World} {A : Around} {env : Env} {h h₀ : Heap} {L a : Addr} {led : Led} {e1 : PySem.Expr} {p p2 : Pos} {k : Int} {n c j : Nat} {vs : List Value} {v : Value}
theorem ev_item (N : News h₀ L h led) (h1 : Ev prog w A env h e1 (IsV (.ref a))) (hm : (a, ({ cls := .type "tuple", data := .seq vs.toArray n } : Obj)) ∈ led) (hk : -(2 ^ 63) ≤ k ∧ k < 2 ^ 63) (hj : seqIndex? k vs.length = some j) (hx : vs[j]? = some v) : Ev prog w A env h (.Subscript e1 (.Constant (.int k) c p2) p) (IsV v) := ⟨fun s Q E e q => by
  refine Subscript_ (h1.run s _ _ e fun u tk hu => ?_)
  cases hu
  refine wpAny_Constant_int ?_
  subst e
  exact item_tupleT (s := { s with toks := tk + 1 }) (News.isTup N hm) hk.1 hk.2 hj hx (q v _ rfl) (by with_unfolding_all rfl)⟩
theorem ev_itemI {i : Int} {t : Tok} (N : News h₀ L h led) (h1 : Ev prog w A env h e1 (IsV (.ref a))) (hm : (a, ({ cls := .type "tuple", data := .seq vs.toArray n } : Obj)) ∈ led) (hk : -(2 ^ 63) ≤ k ∧ k < 2 ^ 63) (hj : seqIndex? k vs.length = some j) (hx : vs[j]? = some (.int i t)) : Ev prog w A env h (.Subscript e1 (.Constant (.int k) c p2) p) (IsI i) := ⟨fun s Q E e q =>
  (ev_item N h1 hm hk hj hx).run s Q E e fun u tk hu => q u tk ⟨t, hu⟩⟩
end
end
section
/-! ## what is written out: evaluated at one stroke -/
structure LitD (e : PySem.Expr) (d : Dat) : Prop where
  star : ∀ (rest : List PySem.Expr) (env : Env), starEach (e :: rest) env = (false, eval e env) :: starEach rest env
  run : ∀ {prog : Program} {w : World} {A : Around} {env : Env} {h₀ : Heap} {L : Addr} {m : Str → Option Value} {s : Shared} {Q E : Value → Shared → Prop} {led : Led}, Fr h₀ L s.heap m → News h₀ L s.heap led →
    (∀ v tl h' tk, Fr h₀ L h' m → News h₀ L h' (tl ++ led) → Ord led tl → DatIn tl v d → Q v { s with heap := h', toks := tk }) → wpAny (model prog w) A (eval e env) Q E s
structure LitA (es : List PySem.Expr) (ds : List Dat) : Prop where
  run : ∀ {prog : Program} {w : World} {A : Around} {env : Env} {h₀ : Heap} {L : Addr} {m : Str → Option Value} {s : Shared} {Q : List Value → Shared → Prop} {E : Value → Shared → Prop} {led : Led} {pos : Pos}, Fr h₀ L s.heap m → News h₀ L s.heap led →
    (∀ vs tl h' tk, Fr h₀ L h' m → News h₀ L h' (tl ++ led) → Ord led tl → DatAll tl vs ds → Q vs { s with heap := h', toks := tk }) → wpAny (model prog w) A (spliced (backTo pos (starEach es env))) Q E s
section
variable {x : Int} {y : Str} {k : Nat} {p q : Pos} {e : PySem.Expr} {es : List PySem.Expr} {d : Dat} {ds : List Dat}
theorem lit_int : LitD (.Constant (.int x) k p) (.int x) := ⟨fun _ _ => rfl, fun F N q => wpAny_Constant_int (q _ [] _ _ F N Ord.nil (.int _ _))⟩
theorem lit_neg : LitD (.UnaryOp .USub (.Constant (.int x) k p) q) (.int (-x)) := ⟨fun _ _ => rfl, fun F N q => wpAny_UnaryOp (wpAny_Constant_int (neg_int (q _ [] _ _ F N Ord.nil (.int _ _))))⟩
theorem lit_str : LitD (.Constant (.str y) k p) (.str y) := ⟨fun _ _ => rfl, fun F N q => wpAny_Constant_str (q _ [] _ _ F N Ord.nil (.str _ _))⟩
theorem lit_tuple (a : LitA es ds) (hl : ds.length ≤ 60) : LitD (.Tuple es k p) (.tuple ds) := ⟨fun _ _ => rfl, fun F N q =>
  Tuple_ (a.run F N fun vs tl h' tk F' N' o D => kup_newTuple F' N' (fun X h2 F2 N2 l => q _ ((X, _) :: tl) _ _ F2 N2 (Ord.cons (allLt_of fun p hp => l p (List.mem_append.mpr (.inr hp))) o) (DatIn.tuple (.head _) (D.mono fun _ h => .tail _ h)))
    (by rw [D.length, sizeLine_eq]; exact Nat.le_trans hl (by decide)))⟩
theorem lit_list (a : LitA es ds) (hl : ds.length ≤ 60) : LitD (.List es p) (.list ds) := ⟨fun _ _ => rfl, fun F N q =>
  List_ (a.run F N fun vs tl h' tk F' N' o D => newList_K F' N' (fun X h2 F2 N2 l => q _ ((X, _) :: tl) _ _ F2 N2 (Ord.cons (allLt_of fun p hp => l p (List.mem_append.mpr (.inr hp))) o) (DatIn.list (.head _) (D.mono fun _ h => .tail _ h)))
    (by rw [D.length, sizeLine_eq]; exact Nat.le_trans hl (by decide)))⟩
theorem litA_nil : LitA [] [] := ⟨fun F N q => args_nil (q [] [] _ _ F N Ord.nil .nil)⟩
theorem litA_cons (x : LitD e d) (r : LitA es ds) : LitA (e :: es) (d :: ds) := ⟨fun F N q =>
  args_cons (x.run F N fun v tl h' tk F' N' o D => r.run F' N' fun vs tl2 h2 tk2 F2 N2 o2 D2 =>
    q (v :: vs) (tl2 ++ tl) h2 tk2 F2 (by rw [List.append_assoc]; exact N2) (Ord.app (Ord.sub o2 fun p hp => List.mem_append.mpr (.inr hp)) o) (.cons (D.mono fun p hp => List.mem_append.mpr (.inr hp)) (D2.mono fun p hp => List.mem_append.mpr (.inl hp)))) (x.star _ _)⟩
end
end
section
theorem lit_listR {es : List PySem.Expr} {ds : List Dat} {p : Pos} {prog : Program} {w : World} {A : Around} {env : Env} {h₀ : Heap} {L : Addr} {m : Str → Option Value} {s : Shared} {Q E : Value → Shared → Prop} {led : Led} (a : LitA es ds) (hl : ds.length ≤ 60) (F : Fr h₀ L s.heap m) (N : News h₀ L s.heap led)
    (q : ∀ D vs tl h' tk, Fr h₀ L h' m → News h₀ L h' ((D, W.listOf (List.toArray vs) 0) :: (tl ++ led)) → (∀ p ∈ tl ++ led, p.1 < D) → Ord led tl → DatAll tl vs ds → Q (.ref D) { s with heap := h', toks := tk }) : wpAny (model prog w) A (eval (.List es p) env) Q E s :=
  List_ (a.run F N fun vs tl h' tk F' N' o D => newList_K F' N' (fun X h2 F2 N2 l => q X vs tl _ _ F2 N2 l o D) (by rw [D.length, sizeLine_eq]; exact Nat.le_trans hl (by decide)))
theorem off_leS {src : Led} {e d : Addr} (h : ∀ p ∈ src, p.1 < e) (k : @LE.le Nat _ e d) : ∀ p ∈ src, p.1 ≠ d := fun p hp => Nat.ne_of_lt (Nat.lt_of_lt_of_le (h p hp) k)
theorem allLt_sub {D : Addr} {big src : Led} (h : ∀ p ∈ big, p.1 < D) (s : ∀ p ∈ src, p ∈ big) : AllLt D src := allLt_of fun p hp => h p (s p hp)
theorem sub_use {l r : Led} {e : Addr × Obj} (h : ∀ p ∈ l, p ∈ r) (m : e ∈ l) : e ∈ r := h _ m
abbrev tupO (vs : List Value) (n : Nat) : Obj := { cls := .type "tuple", data := .seq vs.toArray n }
abbrev qO (q : Rat) (n : Nat) (t1 t2 : Tok) : Obj := tupO [.int q.num t1, .int q.den t2] n
section
variable {news : Led} {v : Value} {q : Rat} {p : Rat × Rat} {P : Value → Prop}
theorem qd_elim (h : DatIn news v (qd q)) (k : ∀ a n t1 t2, (a, qO q n t1 t2) ∈ news → P (.ref a)) : P v := by
  obtain ⟨a, n, t1, t2, rfl, hm⟩ := qd_open h
  exact k a n t1 t2 hm
theorem pd_elim (h : DatIn news v (pd p)) (k : ∀ a n vx vy, (a, tupO [vx, vy] n) ∈ news → DatIn news vx (qd p.1) → DatIn news vy (qd p.2) → P (.ref a)) : P v := by
  obtain ⟨a, n, vx, vy, rfl, hm, h1, h2⟩ := pd_open h
  exact k a n vx vy hm h1 h2
theorem pt_elim (h : DatIn news v (pd p)) (k : ∀ a n b c nb nc t1 t2 t3 t4, (a, tupO [.ref b, .ref c] n) ∈ news → (b, qO p.1 nb t1 t2) ∈ news → (c, qO p.2 nc t3 t4) ∈ news → P (.ref a)) : P v :=
  pd_elim h fun a n vx vy hm h1 h2 => by
    obtain ⟨b, nb, t1, t2, rfl, hb⟩ := qd_open h1
    obtain ⟨c, nc, t3, t4, rfl, hc⟩ := qd_open h2
    exact k a n b c nb nc t1 t2 t3 t4 hm hb hc
end
theorem cvC_elim {news : Led} {v : Value} {p : Rat × Rat} {c : List (Rat × Rat)} {P : Value → Prop} (h : DatIn news v (cvd (p :: c))) (k : ∀ a n a0 vr, (a, tupO (.ref a0 :: vr) n) ∈ news → DatIn news (.ref a) (cvd (p :: c)) → DatIn news (.ref a0) (pd p) → DatAll news vr (c.map pd) → vr.length = c.length → P (.ref a)) : P v := by
  obtain ⟨a, n, vs, rfl, hm, r⟩ := tup_open h
  obtain ⟨v0, vr, rfl, h0, hr⟩ := dall_cons r
  obtain ⟨a0, n0, x, y, rfl, _⟩ := pd_open h0
  exact k a n a0 vr hm h h0 hr (by rw [hr.length, List.length_map])
theorem ref_elim {news : Led} {v : Value} {ds : List Dat} {P : Value → Prop} (h : DatIn news v (.tuple ds)) (k : ∀ a, DatIn news (.ref a) (.tuple ds) → P (.ref a)) : P v := by
  obtain ⟨a, n, vs, rfl, _⟩ := tup_open h
  exact k a h
theorem two_elim {news : Led} {v : Value} {d e : Dat} {P : Value → Prop} (h : DatIn news v (.tuple [d, e])) (k : ∀ a n x y, (a, tupO [x, y] n) ∈ news → DatIn news x d → DatIn news y e → P (.ref a)) : P v := by
  obtain ⟨a, n, x, y, rfl, hm, h1, h2⟩ := two_open h
  exact k a n x y hm h1 h2
theorem room1 {dp n k : Nat} (h : dp + n < recursionLimit) (hk : Nat.ble (1 + k) n = true) : dp + 1 + k < recursionLimit := Nat.lt_of_le_of_lt (Nat.add_assoc dp 1 k ▸ Nat.add_le_add_left (Nat.le_of_ble_eq_true hk) dp) h
theorem room0 {dp n k : Nat} (h : dp + n < recursionLimit) (hk : Nat.ble k n = true) : dp + k < recursionLimit := Nat.lt_of_le_of_lt (Nat.add_le_add_left (Nat.le_of_ble_eq_true hk) dp) h
theorem units1 {un n k : Nat} (h : un + 8 * n < cLine) (hk : Nat.ble (3 + k) (8 * n) = true) : un + 3 + k < cLine := Nat.lt_of_le_of_lt (Nat.add_assoc un 3 k ▸ Nat.add_le_add_left (Nat.le_of_ble_eq_true hk) un) h
theorem units0 {un n k : Nat} (h : un + 8 * n < cLine) (hk : Nat.ble k (8 * n) = true) : un + k < cLine := Nat.lt_of_le_of_lt (Nat.add_le_add_left (Nat.le_of_ble_eq_true hk) un) h
theorem ne_gtR {D E : Addr} {o : Obj} {l : Led} (h : ∀ p ∈ l, p.1 < D) (m : (E, o) ∈ l) : D ≠ E := Nat.ne_of_gt (h _ m)
theorem ne_ltR {D E : Addr} {o : Obj} {l : Led} (h : ∀ p ∈ l, p.1 < D) (m : (E, o) ∈ l) : E ≠ D := Nat.ne_of_lt (h _ m)
section
variable {n : Nat} {q : Rat} {p : Rat × Rat}
theorem Bd.nu (h : Bd n q) : Bits n q.num := h.1
theorem Bd.de (h : Bd n q) : Bits n (q.den : Int) := h.2
theorem bp_nx (h : Bd n p.1 ∧ Bd n p.2) : Bits n p.1.num := h.1.1
theorem bp_dx (h : Bd n p.1 ∧ Bd n p.2) : Bits n (p.1.den : Int) := h.1.2
theorem bp_ny (h : Bd n p.1 ∧ Bd n p.2) : Bits n p.2.num := h.2.1
theorem bp_dy (h : Bd n p.1 ∧ Bd n p.2) : Bits n (p.2.den : Int) := h.2.2
end
/-! ## calls whose arguments make nothing -/
section
variable {K : Frag} {p : Program} {prog : Program} {loose : List Str} {mg mb : Str → Option Value} {w : World} {A : Around} {s : Shared} {h₀ : Heap} {L a g : Addr} {m : Str → Option Value} {cn : Str} {cs : Scope} {ccd : Value} {cl : List (Str × Addr)} {x : Str} {pf pos : Pos} {Q E : Value → Shared → Prop} {e1 e2 e3 e4 : PySem.Expr} {v1 v2 v3 v4 : Value} {i1 i2 i3 : Int}
theorem args1 {env : Env} {P1 : Value → Prop} {Q : List Value → Shared → Prop} (h1 : Ev prog w A env s.heap e1 P1) (st : starEach [e1] env = [(false, eval e1 env)]) (q : ∀ u tk, P1 u → Q [u] { s with toks := tk }) : wpAny (model prog w) A (spliced (backTo pos (starEach [e1] env))) Q E s :=
  args_cons (h1.run s _ _ rfl fun u tk hu => args_nil (q u tk hu)) st
end
end
section
/-! ## expressions over data, calls of what is proved included: evaluated at one stroke -/
/-- what a stretch of evaluation may lean on: aux stands (a frame's own object), base holds the data -/
structure Subs (aux base led : Led) : Prop where
  a : ∀ p ∈ aux, p ∈ led
  b : ∀ p ∈ base, p ∈ led
abbrev PG : Program := PySem.Challenge.rw_on0222_01.row.prog
structure Dv (w : World) (A : Around) (env : Env) (h₀ : Heap) (L : Addr) (m : Str → Option Value) (aux base : Led) (e : PySem.Expr) (d : Dat) : Prop where
  star : ∀ (rest : List PySem.Expr), starEach (e :: rest) env = (false, eval e env) :: starEach rest env
  run : ∀ {s : Shared} {Q E : Value → Shared → Prop} {led : Led}, Fr h₀ L s.heap m → News h₀ L s.heap led → Subs aux base led →
    (∀ v tl h' tk, Fr h₀ L h' m → News h₀ L h' (tl ++ led) → Ord led tl → DatIn (tl ++ base) v d → Q v { s with heap := h', toks := tk }) → wpAny (model PG w) A (eval e env) Q E s
structure DvA (w : World) (A : Around) (env : Env) (h₀ : Heap) (L : Addr) (m : Str → Option Value) (aux base : Led) (es : List PySem.Expr) (ds : List Dat) : Prop where
  run : ∀ {s : Shared} {Q : List Value → Shared → Prop} {E : Value → Shared → Prop} {led : Led} {pos : Pos}, Fr h₀ L s.heap m → News h₀ L s.heap led → Subs aux base led →
    (∀ vs tl h' tk, Fr h₀ L h' m → News h₀ L h' (tl ++ led) → Ord led tl → DatAll (tl ++ base) vs ds → Q vs { s with heap := h', toks := tk }) → wpAny (model PG w) A (spliced (backTo pos (starEach es env))) Q E s
theorem sub_app {l tl aux base : Led} (h : Subs aux base l) : Subs aux base (tl ++ l) := ⟨fun p hp => List.mem_append.mpr (.inr (h.a p hp)), fun p hp => List.mem_append.mpr (.inr (h.b p hp))⟩
theorem mono_app {tl t2 base : Led} {v : Value} {d : Dat} (h : DatIn (tl ++ base) v d) : DatIn ((t2 ++ tl) ++ base) v d := h.mono fun p hp => (List.mem_append.mp hp).elim (fun h => List.mem_append.mpr (.inl (List.mem_append.mpr (.inr h)))) fun h => List.mem_append.mpr (.inr h)
theorem mono_mid {tl t2 base : Led} {vs : List Value} {ds : List Dat} (h : DatAll (t2 ++ base) vs ds) : DatAll ((t2 ++ tl) ++ base) vs ds := h.mono fun p hp => (List.mem_append.mp hp).elim (fun h => List.mem_append.mpr (.inl (List.mem_append.mpr (.inl h)))) fun h => List.mem_append.mpr (.inr h)
section
variable {w : World} {A : Around} {env : Env} {h₀ : Heap} {L : Addr} {m : Str → Option Value} {aux base : Led} {e e1 e2 : PySem.Expr} {es : List PySem.Expr} {d : Dat} {ds : List Dat} {p : Pos} {k : Nat} {x y : Int}
theorem dvA_nil : DvA w A env h₀ L m aux base [] [] := ⟨fun F N _ q => args_nil (q [] [] _ _ F N Ord.nil .nil)⟩
theorem dvA_cons (a : Dv w A env h₀ L m aux base e d) (r : DvA w A env h₀ L m aux base es ds) : DvA w A env h₀ L m aux base (e :: es) (d :: ds) := ⟨fun F N sb q =>
  args_cons (a.run F N sb fun v tl h' tk F' N' o D => r.run F' N' (sub_app sb) fun vs tl2 h2 tk2 F2 N2 o2 D2 =>
    q (v :: vs) (tl2 ++ tl) h2 tk2 F2 (by rw [List.append_assoc]; exact N2) (Ord.app (Ord.sub o2 fun p hp => List.mem_append.mpr (.inr hp)) o) (.cons (mono_app D) (mono_mid D2))) (a.star _)⟩
theorem dv_lit (l : LitD e d) : Dv w A env h₀ L m aux base e d := ⟨fun r => l.star r env, fun F N _ q => l.run F N fun v tl h' tk F' N' o D => q v tl h' tk F' N' o (D.mono fun p hp => List.mem_append.mpr (.inl hp))⟩
theorem dv_tuple (a : DvA w A env h₀ L m aux base es ds) (hl : ds.length ≤ 60) : Dv w A env h₀ L m aux base (.Tuple es k p) (.tuple ds) := ⟨fun _ => rfl, fun F N sb q =>
  Tuple_ (a.run F N sb fun vs tl h' tk F' N' o D => kup_newTuple F' N' (fun X h2 F2 N2 l => q _ ((X, _) :: tl) _ _ F2 N2 (Ord.cons (allLt_of fun p hp => l p (List.mem_append.mpr (.inr hp))) o) (DatIn.tuple (.head _) (D.mono fun _ h => .tail _ h)))
    (by rw [D.length, sizeLine_eq]; exact Nat.le_trans hl (by decide)))⟩
theorem dv_add (h1 : Dv w A env h₀ L m aux base e1 (.int x)) (h2 : Dv w A env h₀ L m aux base e2 (.int y)) : Dv w A env h₀ L m aux base (.BinOp e1 .Add e2 p) (.int (x + y)) := ⟨fun _ => rfl, fun F N sb q =>
  wpAny_BinOp (h1.run F N sb fun v tl h' tk F' N' o D => by
    obtain ⟨t, rfl⟩ := int_open D
    exact h2.run F' N' (sub_app sb) fun u tl2 h2 tk2 F2 N2 o2 D2 => by
      obtain ⟨t2, rfl⟩ := int_open D2
      exact add_int (q _ (tl2 ++ tl) _ _ F2 (by rw [List.append_assoc]; exact N2) (Ord.app (Ord.sub o2 fun p hp => List.mem_append.mpr (.inr hp)) o) (.int _ _)))⟩
theorem dv_sub (h1 : Dv w A env h₀ L m aux base e1 (.int x)) (h2 : Dv w A env h₀ L m aux base e2 (.int y)) : Dv w A env h₀ L m aux base (.BinOp e1 .Sub e2 p) (.int (x - y)) := ⟨fun _ => rfl, fun F N sb q =>
  wpAny_BinOp (h1.run F N sb fun v tl h' tk F' N' o D => by
    obtain ⟨t, rfl⟩ := int_open D
    exact h2.run F' N' (sub_app sb) fun u tl2 h2 tk2 F2 N2 o2 D2 => by
      obtain ⟨t2, rfl⟩ := int_open D2
      exact sub_int (q _ (tl2 ++ tl) _ _ F2 (by rw [List.append_assoc]; exact N2) (Ord.app (Ord.sub o2 fun p hp => List.mem_append.mpr (.inr hp)) o) (.int _ _)))⟩
theorem dv_mul (h1 : Dv w A env h₀ L m aux base e1 (.int x)) (h2 : Dv w A env h₀ L m aux base e2 (.int y)) (hm : IntMulOk x y) : Dv w A env h₀ L m aux base (.BinOp e1 .Mult e2 p) (.int (x * y)) := ⟨fun _ => rfl, fun F N sb q =>
  wpAny_BinOp (h1.run F N sb fun v tl h' tk F' N' o D => by
    obtain ⟨t, rfl⟩ := int_open D
    exact h2.run F' N' (sub_app sb) fun u tl2 h2 tk2 F2 N2 o2 D2 => by
      obtain ⟨t2, rfl⟩ := int_open D2
      exact mul_int (q _ (tl2 ++ tl) _ _ F2 (by rw [List.append_assoc]; exact N2) (Ord.app (Ord.sub o2 fun p hp => List.mem_append.mpr (.inr hp)) o) (.int _ _)) hm)⟩
theorem dv_neg (h1 : Dv w A env h₀ L m aux base e1 (.int x)) : Dv w A env h₀ L m aux base (.UnaryOp .USub e1 p) (.int (-x)) := ⟨fun _ => rfl, fun F N sb q =>
  wpAny_UnaryOp (h1.run F N sb fun v tl h' tk F' N' o D => by
    obtain ⟨t, rfl⟩ := int_open D
    exact neg_int (q _ tl _ _ F' N' o (.int _ _)))⟩
theorem DatAll.at {n : Led} : ∀ {vs : List Value} {ds : List Dat} {j : Nat} {d : Dat}, DatAll n vs ds → ds[j]? = some d → ∃ v, vs[j]? = some v ∧ DatIn n v d
  | _, _, 0, _, .cons h _, e => ⟨_, rfl, by cases e; exact h⟩
  | _, _, j + 1, _, .cons _ r, e => by
    obtain ⟨v, hv, hd⟩ := DatAll.at (j := j) r (by simpa using e)
    exact ⟨v, by simpa using hv, hd⟩
theorem dv_item {i : Int} {c j : Nat} {p2 : Pos} (h1 : Dv w A env h₀ L m aux base e1 (.tuple ds)) (hk : -(2 ^ 63) ≤ i ∧ i < 2 ^ 63) (hj : seqIndex? i ds.length = some j) (hx : ds[j]? = some d) : Dv w A env h₀ L m aux base (.Subscript e1 (.Constant (.int i) c p2) p) d := ⟨fun _ => rfl, fun F N sb q => by
  refine Subscript_ (h1.run F N sb fun u tl h' tk F' N' o D => ?_)
  obtain ⟨a, n, vs, rfl, hm, r⟩ := tup_open D
  obtain ⟨v, hv, hd⟩ := DatAll.at r hx
  refine wpAny_Constant_int ?_
  exact item_tupleT (News.isTup N' ((List.mem_append.mp hm).elim (fun h => List.mem_append.mpr (.inl h)) fun h => List.mem_append.mpr (.inr (sb.b _ h)))) hk.1 hk.2 (by rw [r.length]; exact hj) hv (q v tl h' _ F' N' o hd) (by with_unfolding_all rfl)⟩
theorem seq0 (n : Nat) : seqIndex? 0 (n + 1) = some 0 := by
  unfold seqIndex?
  simp
  try omega
theorem dv_item0 {c : Nat} {p2 : Pos} (h1 : Dv w A env h₀ L m aux base e1 (.tuple (d :: ds))) : Dv w A env h₀ L m aux base (.Subscript e1 (.Constant (.int 0) c p2) p) d := dv_item h1 (by decide) (seq0 ds.length) rfl
/-- so that the goal's tree is not looked into -/
structure Wq (p : Prop) : Prop where
  out : p
/-- over which ledger the data lie -/
structure BaseIs (aux base : Led) : Prop where
theorem baseOf {aux b l : Led} {v : Value} {d : Dat} (_ : BaseIs aux b) (_ : DatIn l v d) : BaseIs aux l := ⟨⟩
theorem dv_runB {s : Shared} {led : Led} {Q E : Value → Shared → Prop} (_ : BaseIs aux base) (F : Fr h₀ L s.heap m) (N : News h₀ L s.heap led) (sa : ∀ p ∈ aux, p ∈ led) (sb : ∀ p ∈ base, p ∈ led) (h : Dv w A env h₀ L m aux base e d) (q : ∀ v tl h' tk, Fr h₀ L h' m → News h₀ L h' (tl ++ led) → Ord led tl → DatIn (tl ++ base) v d → Q v { s with heap := h', toks := tk }) : Wq (wpAny (model PG w) A (eval e env) Q E s) := ⟨h.run F N ⟨sa, sb⟩ q⟩
end
section
variable {w : World} {A : Around} {h₀ : Heap} {L a : Addr} {m : Str → Option Value} {aux base : Led} {cn : Str} {cs : Scope} {ccd : Value} {cl : List (Str × Addr)} {x : Str} {p : Pos} {v : Value} {d : Dat}
theorem dv_name (hv : m x = some v) (hd : DatIn base v d) (hk : cs.kind = .function) (hx : (envX cn cs L a ccd cl).kindOf x = some .local) (hb : (x == ("__debug__" : Str)) = false) : Dv w A (envX cn cs L a ccd cl) h₀ L m aux base (.Name x p) d :=
  ⟨fun _ => rfl, fun F N _ q => nameX_L F hv (q v [] _ _ F N Ord.nil hd) hk hx hb⟩
end
theorem subS {tl base led : Led} (h : ∀ p ∈ base, p ∈ led) : ∀ p ∈ tl ++ base, p ∈ tl ++ led := fun p hp => (List.mem_append.mp hp).elim (fun h => List.mem_append.mpr (.inl h)) fun k => List.mem_append.mpr (.inr (h p k))
/-! calls -/
section
variable {w : World} {mean : ExcName → Option Value} {mg mb : Str → Option Value} {dp un n : Nat} {gd : Option (List Code)} {cn : Str} {cs : Scope} {a g : Addr} {ccd : Value} {cl : List (Str × Addr)} {outer : List Env} {A₀ : Around} {bh h₀ : Heap} {L : Addr} {m : Str → Option Value} {aux base : Led} {x : Str} {p pf : Pos} {e1 : PySem.Expr} {es : List PySem.Expr} {d : Dat} {ds : List Dat}
/-- the name of a def -/
structure FnAt (w : World) (A : Around) (h₀ : Heap) (L : Addr) (m : Str → Option Value) (env : Env) (e : PySem.Expr) (g : Addr) : Prop where
  run : ∀ {s : Shared} {Q E : Value → Shared → Prop}, Fr h₀ L s.heap m → Q (.ref g) s → wpAny (model PG w) A (eval e env) Q E s
theorem fnX {A : Around} (X : (hd.heap_39 w.params).In h₀) (T : Top hd.view_39 (looseW hd.view_39 [Str.ofString "fraction", Str.ofString "direction"]) mean mg mb h₀) (hk : cs.kind = .function)
    (hg : nsIn (hd.heap_39 w.params) mainGlobals x = some (some (.ref g))) (hx : (envX cn cs L a ccd cl).kindOf x = some .globalImplicit) (hb : (x == ("__debug__" : Str)) = false) : FnAt w A h₀ L m (envX cn cs L a ccd cl) (.Name x pf) g :=
  ⟨fun F q => nameX_K F X (topRead_of T) hg q hk hx hb⟩
theorem fnC {A : Around} {scope : Scope} {cl2 : List (Str × Addr)} {C : Addr} {env : Env} (X : (hd.heap_39 w.params).In h₀) (T : Top hd.view_39 (looseW hd.view_39 [Str.ofString "fraction", Str.ofString "direction"]) mean mg mb h₀)
    (hg : nsIn (hd.heap_39 w.params) mainGlobals x = some (some (.ref g))) (he : env.globals = mainGlobals) (hk : (compEnvC scope cl2 C env).scope.kind = .function) (hx : (compEnvC scope cl2 C env).kindOf x = some .globalImplicit) (hb : (x == ("__debug__" : Str)) = false) : FnAt w A h₀ L m (compEnvC scope cl2 C env) (.Name x pf) g :=
  ⟨fun F q => LCgL.ld_global F X T hg q he hk hx hb⟩
theorem dv_call {env : Env} (B : Below A₀ bh outer h₀) (X : (hd.heap_39 w.params).In h₀) (T : Top hd.view_39 (looseW hd.view_39 [Str.ofString "fraction", Str.ofString "direction"]) mean mg mb h₀) (hk : cs.kind = .function)
    (fn : FnAt w (ktrTop dp un gd cn cs L a ccd cl outer) h₀ L m env (.Name x pf) g) (hf : keepIn (hd.heap_39 w.params) (.ref g) = true)
    (he : eval (.Call (.Name x pf) (e1 :: es) [] p) env = (do callWith p (← eval (.Name x pf) env) [] (backTo p (starEach (e1 :: es) env)) (backToKw p (keywordEach [] env))))
    (h1 : Dv w (ktrTop dp un gd cn cs L a ccd cl outer) env h₀ L m aux base e1 d) (hr : DvA w (ktrTop dp un gd cn cs L a ccd cl outer) env h₀ L m aux base es ds) (hp : (backTo p (starEach es env)).any (·.1) = false)
    {d' : Dat} (C : ∀ (l : Led) (v : Value) (vs : List Value), DatIn l v d → DatAll l vs ds → Gives w mean mg mb n g l l (v :: vs) (fun l r => DatIn l r d')) (hd : dp + n < recursionLimit) (hu : un + 8 * n < cLine) :
    Dv w (ktrTop dp un gd cn cs L a ccd cl outer) env h₀ L m aux base (.Call (.Name x pf) (e1 :: es) [] p) d' := ⟨fun _ => rfl, fun F N sb q => by
  refine Call_ (fn.run F ?_) he
  refine callWith_K (first := []) X hf ?_ (h1.star _) hp
  refine (dvA_cons h1 hr).run F N sb fun vs tl h' tk F' N' o D => ⟨X.keeps F'.keep, ?_⟩
  obtain ⟨v, r, rfl, hv, hr⟩ := dall_cons D
  refine Gives.useD (n := n) B F' X N' T hk (C _ v r hv hr) (subS sb.b) hd hu fun u t2 h2 tk2 F2 N2 o2 D2 => ?_
  exact q u (t2 ++ tl) h2 tk2 F2 (by rw [List.append_assoc]; exact N2) (Ord.app (Ord.sub o2 fun p hp => List.mem_append.mpr (.inr hp)) o) (D2.mono fun p hp => (List.mem_append.mp hp).elim (fun h => (List.mem_append.mp h).elim (fun h => List.mem_append.mpr (.inl (List.mem_append.mpr (.inr h)))) fun h => List.mem_append.mpr (.inr h)) fun h => List.mem_append.mpr (.inl (List.mem_append.mpr (.inl h))))⟩
end
theorem swapD {a b : Led} {v : Value} {d : Dat} (h : DatIn (a ++ b) v d) : DatIn (b ++ a) v d := h.mono fun _ hp => List.mem_append.mpr (List.mem_append.mp hp).symm
end
section
section
variable {w : World} {A : Around} {h₀ : Heap} {L a : Addr} {m : Str → Option Value} {aux base led : Led} {cn : Str} {cs : Scope} {ccd : Value} {cl : List (Str × Addr)} {x y : Str} {e : PySem.Expr} {d d1 d2 : Dat} {pos p1 : Pos} {s : Shared} {Q : Flow → Shared → Prop} {E : Value → Shared → Prop}
theorem dv_ret (_ : BaseIs aux base) (F : Fr h₀ L s.heap m) (N : News h₀ L s.heap led) (sa : ∀ p ∈ aux, p ∈ led) (sb : ∀ p ∈ base, p ∈ led) (h : Dv w A (envX cn cs L a ccd cl) h₀ L m aux base e d)
    (q : ∀ v tl h' tk, Fr h₀ L h' m → News h₀ L h' (tl ++ led) → Ord led tl → DatIn (tl ++ base) v d → Q (.ret v) { s with heap := h', toks := tk }) : Wq (wpAny (model PG w) A (exec (.Return (some e) pos) (envX cn cs L a ccd cl)) Q E s) :=
  ⟨wpAny_Return_some (h.run F N ⟨sa, sb⟩ q)⟩
theorem dv_set (_ : BaseIs aux base) (F : Fr h₀ L s.heap m) (N : News h₀ L s.heap led) (sa : ∀ p ∈ aux, p ∈ led) (sb : ∀ p ∈ base, p ∈ led) (h : Dv w A (envX cn cs L a ccd cl) h₀ L m aux base e d)
    (hs : swapsWith e (some (.Name x p1)) pos.line (envX cn cs L a ccd cl) = pure false) (hk : cs.kind = .function) (hx : (envX cn cs L a ccd cl).kindOf x = some .local)
    (q : ∀ v tl h' tk, Fr h₀ L h' (fun z => if z = x then some v else m z) → News h₀ L h' (tl ++ led) → Ord led tl → DatIn (tl ++ base) v d → Q .next { s with heap := h', toks := tk }) : Wq (wpAny (model PG w) A (exec (.Assign [.Name x p1] e pos) (envX cn cs L a ccd cl)) Q E s) :=
  ⟨wpAny_Assign_Name (h.run F N ⟨sa, sb⟩ fun v tl h' tk F' N' o D => storeX_L F' N' (fun h2 F2 N2 => q v tl h2 _ F2 N2 o D) hk hx) hs⟩
theorem dv_pair {elts : List PySem.Expr} {k : Nat} {tp : Pos} (_ : BaseIs aux base) (F : Fr h₀ L s.heap m) (N : News h₀ L s.heap led) (sa : ∀ p ∈ aux, p ∈ led) (sb : ∀ p ∈ base, p ∈ led) (h : Dv w A (envX cn cs L a ccd cl) h₀ L m aux base e (.tuple [d1, d2]))
    (hh : A.handled = none) (hs : swapsWithSole [.Tuple elts k tp] e pos.line (envX cn cs L a ccd cl) = pure false) (hw : swappedStores [.Tuple elts k tp] e (envX cn cs L a ccd cl) = pure (some [x, y])) (hk : cs.kind = .function) (hx : (envX cn cs L a ccd cl).kindOf x = some .local) (hy : (envX cn cs L a ccd cl).kindOf y = some .local)
    (q : ∀ vx vy tl h' tk, Fr h₀ L h' (fun z => if z = x then some vx else if z = y then some vy else m z) → News h₀ L h' (tl ++ led) → Ord led tl → DatIn (tl ++ base) vx d1 → DatIn (tl ++ base) vy d2 → Q .next { s with heap := h', toks := tk }) : Wq (wpAny (model PG w) A (exec (.Assign [.Tuple elts k tp] e pos) (envX cn cs L a ccd cl)) Q E s) :=
  ⟨Assign_Tuple_swapped (names := [x, y]) (h.run F N ⟨sa, sb⟩ fun v tl h' tk F' N' o D => by
    obtain ⟨c, n, vx, vy, rfl, hm, hdx, hdy⟩ := two_open D
    refine unpackItemsN_ F' N' (News.isTup N' ((List.mem_append.mp hm).elim (fun h => List.mem_append.mpr (.inl h)) fun h => List.mem_append.mpr (.inr (sb _ h)))) hh rfl fun h2 F2 N2 => ?_
    refine assignInOrder_cons (bindName_ (storeX_L F2 N2 (fun h3 F3 N3 => ?_) hk hy))
    refine assignInOrder_cons (bindName_ (storeX_L F3 N3 (fun h4 F4 N4 => ?_) hk hx))
    exact assignInOrder_nil (q vx vy tl h4 _ F4 N4 o hdx hdy)) hs hw⟩
end
end
section
abbrev Trip (h : Heap) (T : Addr) (a b c : Value) : Prop := h.get? T = some { cls := .type "tuple", data := .seq #[a, b, c] }

section
variable {prog : Program} {w : World} {A : Around} {E : Value → Shared → Prop} {s : Shared}
theorem next_tup {it t : Addr} {i : Nat} {items} {x : Value} {Q : Value → Shared → Prop} (hit : s.heap.IsTupleIter it t i) (ht : s.heap.IsTuple t items) (hx : items[i]? = some x)
    (hQ : ∀ h', h'.IsTupleIter it t (i + 1) → Heap.SameBut it s.heap h' → Q x { s with heap := h' }) :
    wpAny (model prog w) A (Builtin.SmallTypes.nextOf (.ref it)) Q E s := by
  obtain ⟨o, ho, hc, hd⟩ := id hit
  obtain ⟨ol, hol, _, nl, hdl⟩ := ht
  unfold Builtin.SmallTypes.nextOf
  refine wpAny_bind (wpAny_callSpecial?_slot (name := Str.ofString "__next__") hit.typeIs F.slot_tuple_iterator_next
    (wpAny_call_entry F.slot_tuple_iterator_next hit.typeIs F.entry_tuple_iterator_next ?_ (F.args_tuple_iterator_next_1 _)))
  show wpAny _ _ (field (.ref it) 0 >>= _) _ _ s
  refine wpAny_bind (wpAny_field ho hd (x := .ref t) rfl ?_)
  show wpAny _ _ (if (Value.ref t == Value.none) = true then _ else _) _ _ s
  rw [if_neg (show ¬ ((Value.ref t == Value.none) = true) from Bool.false_ne_true)]
  show wpAny _ _ (field (.ref it) 1 >>= _) _ _ s
  refine wpAny_bind (wpAny_field ho hd (x := .int i 0) rfl ?_)
  show wpAny _ _ (seqItems? (.ref t) >>= _) _ _ s
  refine wpAny_bind (wpAny_seqItems hol hdl ?_)
  simp only [Int.toNat_natCast, hx]
  refine wpAny_bind (wpAny_setField ho hd (by simp) (wpAny_pure ⟨x, rfl, wpAny_pure (hQ _ ?_ (Heap.SameBut.update ..))⟩))
  exact ⟨_, Heap.get?_update_self _ ho (Obj.isFreed_of_fields (Obj.data_mapFields hd _)), (Obj.cls_mapFields ..).trans hc, by
    rw [Obj.data_mapFields hd]; simp [rawInt]⟩
theorem next_tup_end {it t : Addr} {i : Nat} {items} {Q : Value → Shared → Prop} (hh : A.handled = none) (hit : s.heap.IsTupleIter it t i) (ht : s.heap.IsTuple t items) (hx : items[i]? = none)
    (hE : ∀ h' e, Heap.ExtBut it s.heap h' → (∃ o, h'.get? e = some o ∧ o.cls = .type "StopIteration") → E (.ref e) { s with heap := h' }) :
    wpAny (model prog w) A (Builtin.SmallTypes.nextOf (.ref it)) Q E s := by
  obtain ⟨o, ho, hc, hd⟩ := id hit
  obtain ⟨ol, hol, _, nl, hdl⟩ := ht
  unfold Builtin.SmallTypes.nextOf
  refine wpAny_bind (wpAny_callSpecial?_slot (name := Str.ofString "__next__") hit.typeIs F.slot_tuple_iterator_next
    (wpAny_call_entry F.slot_tuple_iterator_next hit.typeIs F.entry_tuple_iterator_next ?_ (F.args_tuple_iterator_next_1 _)))
  show wpAny _ _ (field (.ref it) 0 >>= _) _ _ s
  refine wpAny_bind (wpAny_field ho hd (x := .ref t) rfl ?_)
  show wpAny _ _ (if (Value.ref t == Value.none) = true then _ else _) _ _ s
  rw [if_neg (show ¬ ((Value.ref t == Value.none) = true) from Bool.false_ne_true)]
  show wpAny _ _ (field (.ref it) 1 >>= _) _ _ s
  refine wpAny_bind (wpAny_field ho hd (x := .int i 0) rfl ?_)
  show wpAny _ _ (seqItems? (.ref t) >>= _) _ _ s
  refine wpAny_bind (wpAny_seqItems hol hdl ?_)
  simp only [Int.toNat_natCast, hx]
  refine wpAny_bind (wpAny_rule (wpAny_bind (wpAny_setField ho hd (by simp) ?_)))
  show wpAny _ _ (newExc (.type "StopIteration") [] >>= _) _ _ _
  refine wpAny_bind ?_
  simp only [newExc, newTuple]
  refine wpAny_bind (wpAny_newObj_type ?_ (by size_fits))
  refine wpAny_bind (m := firstArgMember _ _) (wpAny_of_eq (a := Value.none) (by first | rfl | (simp only [firstArgMember]; rfl)) ?_)
  refine wpAny_newObj_type ?_ (by size_fits)
  simp only [raiseNew]
  refine wpAny_bind (wpAny_handled ?_)
  first | rw [show A.in1.handled = none from hh] | rw [hh]
  refine wpAny_bind (wpAny_pure (wpAny_throw ?_))
  exact hE _ _ (((Heap.SameBut.update ..).extBut.push _).push _) ⟨_, Heap.get?_push_size _ rfl, rfl⟩

theorem upd_trip {T : Addr} {a b c x : Value} {k : Nat} {Q : Unit → Shared → Prop} (hT : Trip s.heap T a b c)
    (h : ∀ h', h'.get? T = some { cls := .type "tuple", data := .seq ((#[a, b, c] : Array Value).setIfInBounds k x) } → Heap.SameBut T s.heap h' → Q () { s with heap := h' }) :
    wpAny (model prog w) A (updateSeq T (·.setIfInBounds k x)) Q E s := by
  refine wpAny_updateSeq hT rfl (h _ ?_ (Heap.SameBut.update ..))
  rw [Heap.get?_update_self _ hT rfl]
  simp [Obj.mapSeq]

/-- the state of a zip of three tuples, its objects one behind the other from I on -/
structure Z3 (h : Heap) (I l1 l2 l3 : Addr) (xs ys zs : Array Value) (i : Nat) (f0 : Value) : Prop where
  z : IsZip h (I + 5) (I + 3) (I + 4) f0
  TI : Trip h (I + 3) (.ref I) (.ref (I + 1)) (.ref (I + 2))
  TO : ∃ a b c, Trip h (I + 4) a b c
  i1 : h.IsTupleIter I l1 i
  i2 : h.IsTupleIter (I + 1) l2 i
  i3 : h.IsTupleIter (I + 2) l3 i
  l1 : h.IsTuple l1 xs
  l2 : h.IsTuple l2 ys
  l3 : h.IsTuple l3 zs
abbrev Z3keep (I : Addr) (h h' : Heap) : Prop := ∀ c o, c ≠ I + 5 → c ≠ I + 4 → c ≠ I → c ≠ I + 1 → c ≠ I + 2 → h.get? c = some o → h'.get? c = some o

theorem zip3_item {I l1 l2 l3 : Nat} {xs ys zs : Array Value} {i : Nat} {x y z : Value} {Q : Value → Shared → Prop} (d1 : l1 < I) (d2 : l2 < I) (d3 : l3 < I)
    (Z : Z3 s.heap I l1 l2 l3 xs ys zs i .none) (hx : xs[i]? = some x) (hy : ys[i]? = some y) (hz : zs[i]? = some z)
    (hQ : ∀ h', Z3 h' I l1 l2 l3 xs ys zs (i + 1) (rawInt s.heap.objs.size) → Trip h' s.heap.objs.size x y z → I + 5 < s.heap.objs.size → Z3keep I s.heap h' → Q (.ref s.heap.objs.size) { s with heap := h' }) :
    wpAny (model prog w) A (Builtin.«zip.__next__» ⟨[.ref (I + 5)], []⟩) (fun fin s' => ∃ v, fin = .done (.ret v) ∧ Q v s') E s := by
  obtain ⟨hz0, hTI, ⟨a, b, c, hTO⟩, h1, h2, h3, hl1, hl2, hl3⟩ := Z
  have n1 : ∀ {a b : Nat}, a < b → a ≠ b := fun h => Nat.ne_of_lt h
  have n2 : ∀ {a b : Nat}, b < a → a ≠ b := fun h => Nat.ne_of_gt h
  show wpAny _ _ (field (.ref (I + 5)) 2 >>= _) _ _ _
  refine wpAny_bind (wpAny_field hz0 rfl (x := .bool false) rfl ?_)
  show wpAny _ _ (field (.ref (I + 5)) 3 >>= _) _ _ _
  refine wpAny_bind (wpAny_field hz0 rfl (x := .ref (I + 3)) rfl ?_)
  refine wpAny_bind (wpAny_seqItems hTI rfl ?_)
  show wpAny _ _ (Builtin.SmallTypes.ownedTupleIsFree (.ref (I + 5)) >>= _) _ _ _
  refine wpAny_bind ?_
  unfold Builtin.SmallTypes.ownedTupleIsFree
  refine wpAny_bind (wpAny_field hz0 rfl (x := .none) rfl (wpAny_pure ?_))
  simp only [if_true]
  refine wpAny_bind (wpAny_rule ?_)
  refine wpAny_bind (wpAny_field hz0 rfl (x := .ref (I + 4)) rfl ?_)
  refine wpAny_bind (wpAny_setField_rec hz0 (by simp) fun h₁ hz₁ hs₁ => ?_)
  replace hz₁ : IsZip h₁ (I + 5) (I + 3) (I + 4) .ellipsis := hz₁
  refine wpAny_bind ?_
  simp only [List.zipIdx_cons, List.zipIdx_nil, List.forIn_cons, List.forIn_nil]
  -- the first
  refine wpAny_bind (wpAny_bind (wpAny_onRaise ?_))
  show wpAny _ _ (Builtin.SmallTypes.nextOf (.ref I) >>= _) _ _ _
  refine wpAny_bind (next_tup (h1.extBut hs₁.extBut (n1 (by omega))) (hl1.extBut hs₁.extBut (n1 (by omega))) hx fun h₂ h1₂ hs₂ => wpAny_pure ?_)
  have hTO₂ : Trip h₂ (I + 4) a b c := hs₂.extBut _ _ (n2 (by omega)) (hs₁.extBut _ _ (n1 (by omega)) hTO)
  refine wpAny_bind (wpAny_seqItems hTO₂ rfl ?_)
  refine wpAny_bind (upd_trip hTO₂ fun h₃ hTO₃ hs₃ => ?_)
  replace hTO₃ : Trip h₃ (I + 4) x b c := hTO₃
  refine wpAny_bind (wpAny_letGo (wpAny_pure ?_))
  -- the second
  refine wpAny_bind (wpAny_bind (wpAny_onRaise ?_))
  show wpAny _ _ (Builtin.SmallTypes.nextOf (.ref (I + 1)) >>= _) _ _ _
  refine wpAny_bind (next_tup (((h2.extBut hs₁.extBut (n1 (by omega))).extBut hs₂.extBut (n2 (by omega))).extBut hs₃.extBut (n1 (by omega)))
    (((hl2.extBut hs₁.extBut (n1 (by omega))).extBut hs₂.extBut (n1 (by omega))).extBut hs₃.extBut (n1 (by omega))) hy fun h₄ h2₄ hs₄ => wpAny_pure ?_)
  have hTO₄ : Trip h₄ (I + 4) x b c := hs₄.extBut _ _ (n2 (by omega)) hTO₃
  refine wpAny_bind (wpAny_seqItems hTO₄ rfl ?_)
  refine wpAny_bind (upd_trip hTO₄ fun h₅ hTO₅ hs₅ => ?_)
  replace hTO₅ : Trip h₅ (I + 4) x y c := hTO₅
  refine wpAny_bind (wpAny_letGo (wpAny_pure ?_))
  -- the third
  refine wpAny_bind (wpAny_bind (wpAny_onRaise ?_))
  show wpAny _ _ (Builtin.SmallTypes.nextOf (.ref (I + 2)) >>= _) _ _ _
  refine wpAny_bind (next_tup (((((h3.extBut hs₁.extBut (n1 (by omega))).extBut hs₂.extBut (n2 (by omega))).extBut hs₃.extBut (n1 (by omega))).extBut hs₄.extBut (n2 (by omega))).extBut hs₅.extBut (n1 (by omega)))
    (((((hl3.extBut hs₁.extBut (n1 (by omega))).extBut hs₂.extBut (n1 (by omega))).extBut hs₃.extBut (n1 (by omega))).extBut hs₄.extBut (n1 (by omega))).extBut hs₅.extBut (n1 (by omega))) hz fun h₆ h3₆ hs₆ => wpAny_pure ?_)
  have hTO₆ : Trip h₆ (I + 4) x y c := hs₆.extBut _ _ (n2 (by omega)) hTO₅
  refine wpAny_bind (wpAny_seqItems hTO₆ rfl ?_)
  refine wpAny_bind (upd_trip hTO₆ fun h₇ hTO₇ hs₇ => ?_)
  replace hTO₇ : Trip h₇ (I + 4) x y z := hTO₇
  refine wpAny_bind (wpAny_letGo (wpAny_pure (wpAny_pure ?_)))

  refine wpAny_bind (wpAny_seqItems hTO₇ rfl ?_)
  refine wpAny_bind (wpAny_newTuple ?_)
  have hsz : h₇.objs.size = s.heap.objs.size := by rw [hs₇.1, hs₆.1, hs₅.1, hs₄.1, hs₃.1, hs₂.1, hs₁.1]
  have hk₇ : Z3keep I s.heap h₇ := fun c o c1 c2 c3 c4 c5 e =>
    hs₇.extBut _ _ c2 (hs₆.extBut _ _ c5 (hs₅.extBut _ _ c2 (hs₄.extBut _ _ c4 (hs₃.extBut _ _ c2 (hs₂.extBut _ _ c3 (hs₁.extBut _ _ c1 e))))))
  have hz₇ : IsZip h₇ (I + 5) (I + 3) (I + 4) .ellipsis := hs₇.extBut _ _ (n2 (by omega)) (hs₆.extBut _ _ (n2 (by omega)) (hs₅.extBut _ _ (n2 (by omega)) (hs₄.extBut _ _ (n2 (by omega)) (hs₃.extBut _ _ (n2 (by omega)) (hs₂.extBut _ _ (n2 (by omega)) hz₁)))))
  have h1₇ : h₇.IsTupleIter I l1 (i + 1) := ((((h1₂.extBut hs₃.extBut (n1 (by omega))).extBut hs₄.extBut (n1 (by omega))).extBut hs₅.extBut (n1 (by omega))).extBut hs₆.extBut (n1 (by omega))).extBut hs₇.extBut (n1 (by omega))
  have h2₇ : h₇.IsTupleIter (I + 1) l2 (i + 1) := ((h2₄.extBut hs₅.extBut (n1 (by omega))).extBut hs₆.extBut (n1 (by omega))).extBut hs₇.extBut (n1 (by omega))
  have h3₇ : h₇.IsTupleIter (I + 2) l3 (i + 1) := h3₆.extBut hs₇.extBut (n1 (by omega))
  have hTI₇ : Trip h₇ (I + 3) (.ref I) (.ref (I + 1)) (.ref (I + 2)) := hk₇ _ _ (n1 (by omega)) (n1 (by omega)) (n2 (by omega)) (n2 (by omega)) (n2 (by omega)) hTI
  have hzlt : I + 5 < h₇.objs.size := Heap.lt_size hz₇
  show wpAny _ _ (Builtin.SmallTypes.ownedTupleHandOut (.ref (I + 5)) (.ref h₇.objs.size) >>= _) _ _ _
  refine wpAny_bind ?_
  unfold Builtin.SmallTypes.ownedTupleHandOut
  have hz₈ : IsZip (h₇.push { cls := .type "tuple", data := .seq #[x, y, z] }) (I + 5) (I + 3) (I + 4) .ellipsis := Heap.get?_push_of_some _ hz₇
  refine wpAny_bind (wpAny_setField_rec hz₈ (by simp) fun h₉ hz₉ hs₉ => ?_)
  replace hz₉ : IsZip h₉ (I + 5) (I + 3) (I + 4) (rawInt h₇.objs.size) := hz₉
  refine wpAny_setField_rec hz₉ (by simp) fun h' hz' hs' => ?_
  replace hz' : IsZip h' (I + 5) (I + 3) (I + 4) (rawInt h₇.objs.size) := hz'
  have up : ∀ c o, c ≠ I + 5 → h₇.get? c = some o → h'.get? c = some o := fun c o c1 e => hs'.extBut _ _ c1 (hs₉.extBut _ _ c1 (Heap.get?_push_of_some _ e))
  have hT' : Trip h' h₇.objs.size x y z := hs'.extBut _ _ (Nat.ne_of_gt hzlt) (hs₉.extBut _ _ (Nat.ne_of_gt hzlt) (Heap.get?_push_size _ rfl))
  rw [hsz] at hz' hT' hzlt
  refine wpAny_pure ⟨_, rfl, ?_⟩
  show Q (.ref h₇.objs.size) _
  rw [hsz]
  have keep : Z3keep I s.heap h' := fun c o c1 c2 c3 c4 c5 e => up c o c1 (hk₇ c o c1 c2 c3 c4 c5 e)
  exact hQ h' ⟨hz', up _ _ (n1 (by omega)) hTI₇, ⟨_, _, _, up _ _ (n1 (by omega)) hTO₇⟩, h1₇.at fun o e => up _ o (n1 (by omega)) e, h2₇.at fun o e => up _ o (n1 (by omega)) e, h3₇.at fun o e => up _ o (n1 (by omega)) e,
    hl1.at fun o e => keep _ o (n1 (by omega)) (n1 (by omega)) (n1 (by omega)) (n1 (by omega)) (n1 (by omega)) e, hl2.at fun o e => keep _ o (n1 (by omega)) (n1 (by omega)) (n1 (by omega)) (n1 (by omega)) (n1 (by omega)) e, hl3.at fun o e => keep _ o (n1 (by omega)) (n1 (by omega)) (n1 (by omega)) (n1 (by omega)) (n1 (by omega)) e⟩ hT' hzlt keep

/-- all three end at once: the first one's end is the zip's -/
theorem zip3_end {I l1 l2 l3 : Nat} {xs ys zs : Array Value} {i : Nat} {Q : Fin → Shared → Prop} (hh : A.handled = none) (d1 : l1 < I)
    (Z : Z3 s.heap I l1 l2 l3 xs ys zs i .none) (hx : xs[i]? = none)
    (hE : ∀ h' e, Z3keep I s.heap h' → (∃ o, h'.get? e = some o ∧ o.cls = .type "StopIteration") → E (.ref e) { s with heap := h' }) :
    wpAny (model prog w) A (Builtin.«zip.__next__» ⟨[.ref (I + 5)], []⟩) Q E s := by
  obtain ⟨hz0, hTI, ⟨a, b, c, hTO⟩, h1, h2, h3, hl1, hl2, hl3⟩ := Z
  have n1 : ∀ {a b : Nat}, a < b → a ≠ b := fun h => Nat.ne_of_lt h
  have n2 : ∀ {a b : Nat}, b < a → a ≠ b := fun h => Nat.ne_of_gt h
  show wpAny _ _ (field (.ref (I + 5)) 2 >>= _) _ _ _
  refine wpAny_bind (wpAny_field hz0 rfl (x := .bool false) rfl ?_)
  show wpAny _ _ (field (.ref (I + 5)) 3 >>= _) _ _ _
  refine wpAny_bind (wpAny_field hz0 rfl (x := .ref (I + 3)) rfl ?_)
  refine wpAny_bind (wpAny_seqItems hTI rfl ?_)
  show wpAny _ _ (Builtin.SmallTypes.ownedTupleIsFree (.ref (I + 5)) >>= _) _ _ _
  refine wpAny_bind ?_
  unfold Builtin.SmallTypes.ownedTupleIsFree
  refine wpAny_bind (wpAny_field hz0 rfl (x := .none) rfl (wpAny_pure ?_))
  simp only [if_true]
  refine wpAny_bind (wpAny_rule ?_)
  refine wpAny_bind (wpAny_field hz0 rfl (x := .ref (I + 4)) rfl ?_)
  refine wpAny_bind (wpAny_setField_rec hz0 (by simp) fun h₁ hz₁ hs₁ => ?_)
  replace hz₁ : IsZip h₁ (I + 5) (I + 3) (I + 4) .ellipsis := hz₁
  refine wpAny_bind ?_
  simp only [List.zipIdx_cons, List.zipIdx_nil, List.forIn_cons, List.forIn_nil]
  refine wpAny_bind (wpAny_bind (wpAny_onRaise ?_))
  show wpAny _ _ (Builtin.SmallTypes.nextOf (.ref I) >>= _) _ _ _
  refine wpAny_bind (next_tup_end hh (h1.extBut hs₁.extBut (n1 (by omega))) (hl1.extBut hs₁.extBut (n1 (by omega))) hx fun h₂ e hs₂ he => ?_)
  obtain ⟨oe, hoe, hce⟩ := he
  have hz₂ : IsZip h₂ (I + 5) (I + 3) (I + 4) .ellipsis := hs₂ _ _ (n2 (by omega)) hz₁
  have hez : e ≠ I + 5 := fun x => by subst x; rw [hz₂] at hoe; cases hoe; simp at hce
  refine wpAny_setField_rec hz₂ (by simp) fun h₃ _ hs₃ => hE h₃ e (fun c o c1 _ c3 _ _ x => hs₃.extBut _ _ c1 (hs₂ _ _ c3 (hs₁.extBut _ _ c1 x))) ⟨oe, hs₃.extBut _ _ hez hoe, hce⟩

abbrev z3H1 (h : Heap) (l1 : Addr) : Heap := h.push { cls := .type "tuple_iterator", data := .fields #[.ref l1, .int 0 0] }
abbrev z3H2 (h : Heap) (l1 l2 : Addr) : Heap := (z3H1 h l1).push { cls := .type "tuple_iterator", data := .fields #[.ref l2, .int 0 0] }
abbrev z3H3 (h : Heap) (l1 l2 l3 : Addr) : Heap := (z3H2 h l1 l2).push { cls := .type "tuple_iterator", data := .fields #[.ref l3, .int 0 0] }
abbrev z3H4 (h : Heap) (l1 l2 l3 : Addr) : Heap := (z3H3 h l1 l2 l3).push { cls := .type "tuple", data := .seq #[.ref h.objs.size, .ref (z3H1 h l1).objs.size, .ref (z3H2 h l1 l2).objs.size] }
abbrev z3H5 (h : Heap) (l1 l2 l3 : Addr) : Heap := (z3H4 h l1 l2 l3).push { cls := .type "tuple", data := .seq #[.none, .none, .none] }
abbrev z3H6 (h : Heap) (l1 l2 l3 : Addr) : Heap := (z3H5 h l1 l2 l3).push { cls := .type "zip", data := .fields #[.none, .bool false, .bool false, .ref (z3H3 h l1 l2 l3).objs.size, .ref (z3H4 h l1 l2 l3).objs.size] }

set_option maxHeartbeats 4000000 in
set_option maxRecDepth 100000 in
theorem meets_zip3 (l1 l2 l3 : Addr) (xs ys zs : Array Value) :
    Meets (Builtin.«zip.__new__» ⟨[.type "zip", .ref l1, .ref l2, .ref l3], []⟩) (fun _ R s => s.heap.IsTuple l1 xs ∧ s.heap.IsTuple l2 ys ∧ s.heap.IsTuple l3 zs ∧
      R (.ok (.ret (.ref (z3H5 s.heap l1 l2 l3).objs.size))) { s with heap := z3H6 s.heap l1 l2 l3 }) :=
  .of_wp fun prog w A R s h => by
    obtain ⟨hp, g, d, tk, os⟩ := s; obtain ⟨hl1, hl2, hl3, h⟩ := h
    have hsub := sub_zip
    have hL1 : Heap.IsTuple (Shared.heap ⟨hp, g, d, tk, os⟩) l1 xs := hl1
    have hL2 : Heap.IsTuple (Shared.heap ⟨hp.push { cls := .type "tuple_iterator", data := .fields #[.ref l1, .int 0 0] }, g, d, tk, os⟩) l2 ys := Heap.IsTuple.push hl2 _
    have hL3 : Heap.IsTuple (Shared.heap ⟨(hp.push { cls := .type "tuple_iterator", data := .fields #[.ref l1, .int 0 0] }).push { cls := .type "tuple_iterator", data := .fields #[.ref l2, .int 0 0] }, g, d, tk, os⟩) l3 zs := Heap.IsTuple.push (Heap.IsTuple.push hl3 _) _
    wp_walk using wpAny_pyIter_tuple hL1, wpAny_pyIter_tuple hL2, wpAny_pyIter_tuple hL3
    exact ⟨_, rfl, h⟩
end
end
section
theorem typeCall_zip3 (a b c : Value) : checkTypeCall "zip" ⟨[a, b, c], []⟩ = pure () := by kernel_rfl
theorem newCall_zip3 (a b c : Value) : checkBuiltinCall "zip.__new__" ⟨[.type "zip", a, b, c], []⟩ = pure () := by kernel_rfl
theorem args_object_init4 (a b c d : Value) : argsOk "object.__init__" ⟨[a, b, c, d], []⟩ := by
  unfold argsOk; rw [signature?_of (id := "object.__init__") (n := ['_', '_', 't', 'i', 'n', 'i', '_', '_']) (o := ['t', 'c', 'e', 'j', 'b', 'o']) (by kernel_rfl) F.owner_object]; kernel_rfl
section
variable {prog : Program} {w : World} {A : Around} {E : Value → Shared → Prop} {s : Shared}
theorem call_zip3 {l1 l2 l3 : Addr} {xs ys zs : Array Value} {Q : Value → Shared → Prop} (hl1 : s.heap.IsTuple l1 xs) (hl2 : s.heap.IsTuple l2 ys) (hl3 : s.heap.IsTuple l3 zs)
    (h : ∀ h', Z3 h' s.heap.objs.size l1 l2 l3 xs ys zs 0 .none → (∀ c o, s.heap.get? c = some o → h'.get? c = some o) → Q (.ref (s.heap.objs.size + 5)) { s with heap := h' }) :
    wpAny (model prog w) A (call (.type "zip") [.ref l1, .ref l2, .ref l3]) Q E s := by
  refine callType_new F.called_zip (by decide) (typeCall_zip3 _ _ _) (newCall_zip3 _ _ _) (fun obj => args_object_init4 obj _ _ _) F.entry_zip_new
    (meets_zip3 l1 l2 l3 xs ys zs) ⟨hl1, hl2, hl3, ?_⟩
  have z1 : (z3H1 s.heap l1).objs.size = s.heap.objs.size + 1 := Heap.size_push ..
  have z2 : (z3H2 s.heap l1 l2).objs.size = s.heap.objs.size + 2 := by rw [Heap.size_push, z1]
  have z3 : (z3H3 s.heap l1 l2 l3).objs.size = s.heap.objs.size + 3 := by rw [Heap.size_push, z2]
  have z4 : (z3H4 s.heap l1 l2 l3).objs.size = s.heap.objs.size + 4 := by rw [Heap.size_push, z3]
  have z5 : (z3H5 s.heap l1 l2 l3).objs.size = s.heap.objs.size + 5 := by rw [Heap.size_push, z4]
  have g6 : (z3H6 s.heap l1 l2 l3).get? (z3H5 s.heap l1 l2 l3).objs.size = some _ := Heap.get?_push_size _ rfl
  have g5 : (z3H6 s.heap l1 l2 l3).get? (z3H4 s.heap l1 l2 l3).objs.size = some _ := Heap.get?_push_of_some _ (Heap.get?_push_size _ rfl)
  have g4 : (z3H6 s.heap l1 l2 l3).get? (z3H3 s.heap l1 l2 l3).objs.size = some _ := Heap.get?_push_of_some _ (Heap.get?_push_of_some _ (Heap.get?_push_size _ rfl))
  have g3 : (z3H6 s.heap l1 l2 l3).get? (z3H2 s.heap l1 l2).objs.size = some _ := Heap.get?_push_of_some _ (Heap.get?_push_of_some _ (Heap.get?_push_of_some _ (Heap.get?_push_size _ rfl)))
  have g2 : (z3H6 s.heap l1 l2 l3).get? (z3H1 s.heap l1).objs.size = some _ := Heap.get?_push_of_some _ (Heap.get?_push_of_some _ (Heap.get?_push_of_some _ (Heap.get?_push_of_some _ (Heap.get?_push_size _ rfl))))
  have g1 : (z3H6 s.heap l1 l2 l3).get? s.heap.objs.size = some _ := Heap.get?_push_of_some _ (Heap.get?_push_of_some _ (Heap.get?_push_of_some _ (Heap.get?_push_of_some _ (Heap.get?_push_of_some _ (Heap.get?_push_size _ rfl)))))
  have up : ∀ c o, s.heap.get? c = some o → (z3H6 s.heap l1 l2 l3).get? c = some o := fun c o x =>
    Heap.get?_push_of_some _ (Heap.get?_push_of_some _ (Heap.get?_push_of_some _ (Heap.get?_push_of_some _ (Heap.get?_push_of_some _ (Heap.get?_push_of_some _ x)))))
  show _ ∧ _
  rw [z3, z4, z5] at g6
  rw [z4] at g5
  rw [z1, z2, z3] at g4
  rw [z2] at g3
  rw [z1] at g2
  rw [z5]
  exact ⟨⟨_, g6, rfl⟩, h _ ⟨g6, g4, ⟨_, _, _, g5⟩, ⟨_, g1, rfl, rfl⟩, ⟨_, g2, rfl, rfl⟩, ⟨_, g3, rfl, rfl⟩, hl1.at fun o e => up _ o e, hl2.at fun o e => up _ o e, hl3.at fun o e => up _ o e⟩ up⟩

theorem Z3.keep {h h' : Heap} {I l1 l2 l3 : Addr} {xs ys zs : Array Value} {i : Nat} {f0 : Value} (Z : Z3 h I l1 l2 l3 xs ys zs i f0)
    (k : ∀ b ∈ [I + 5, I + 3, I + 4, I, I + 1, I + 2, l1, l2, l3], ∀ o, h.get? b = some o → h'.get? b = some o) : Z3 h' I l1 l2 l3 xs ys zs i f0 := by
  obtain ⟨hz0, hTI, ⟨a, b, c, hTO⟩, h1, h2, h3, hl1, hl2, hl3⟩ := Z
  exact ⟨k _ (by simp) _ hz0, k _ (by simp) _ hTI, ⟨a, b, c, k _ (by simp) _ hTO⟩, h1.at fun o e => k _ (by simp) o e, h2.at fun o e => k _ (by simp) o e, h3.at fun o e => k _ (by simp) o e,
    hl1.at fun o e => k _ (by simp) o e, hl2.at fun o e => k _ (by simp) o e, hl3.at fun o e => k _ (by simp) o e⟩

theorem turns_zip3 {elts : List PySem.Expr} {kk : Nat} {pos : Pos} (hh : A.handled = none) {I l1 l2 l3 : Nat} (d1 : l1 < I) (d2 : l2 < I) (d3 : l3 < I) (xs ys zs : Array Value) (e2 : ys.size = xs.size) (e3 : zs.size = xs.size) :
    KTurns prog w A (.Tuple elts kk pos) (I + 5) [I + 5, I + 3, I + 4, I, I + 1, I + 2, l1, l2, l3] [I + 5, I + 4, I, I + 1, I + 2] xs.size
      (fun i v h => ∃ T x y z, v = .ref T ∧ xs[i]? = some x ∧ ys[i]? = some y ∧ zs[i]? = some z ∧ h.IsTuple T #[x, y, z])
      (fun i v h => ∃ T x y z, v = .ref T ∧ xs[i]? = some x ∧ ys[i]? = some y ∧ zs[i]? = some z ∧ h.IsTuple T #[x, y, z] ∧ I + 5 < T ∧ Z3 h I l1 l2 l3 xs ys zs (i + 1) (rawInt T))
      (fun i h => Z3 h I l1 l2 l3 xs ys zs i .none) where
  sub := fun b hb => by simp at hb ⊢; rcases hb with rfl | rfl | rfl | rfl | rfl <;> simp
  frame := fun i h h' st k => st.keep k
  item := fun i s Q E hi st hQ => by
    have hT : s.TypeIs (.ref (I + 5)) "zip" := ⟨_, st.z, rfl⟩
    unfold pyNext
    refine wpAny_bind (wpAny_attempt (wpAny_callSpecial?_slot (name := Str.ofString "__next__") hT F.slot_zip_next
      (wpAny_call_entry F.slot_zip_next hT F.entry_zip_next
        (zip3_item d1 d2 d3 st (Array.getElem?_eq_getElem hi) (Array.getElem?_eq_getElem (by omega)) (Array.getElem?_eq_getElem (by omega)) fun h' Z' T' hlt k => wpAny_pure ?_) (F.args_zip_next_1 _))))
    refine hQ _ h' s.toks ⟨_, _, _, _, rfl, Array.getElem?_eq_getElem hi, Array.getElem?_eq_getElem (by omega), Array.getElem?_eq_getElem (by omega), ⟨_, T', rfl, _, rfl⟩, hlt, Z'⟩ fun c o hc e => ?_
    simp at hc
    exact k c o hc.1 hc.2.1 hc.2.2.1 hc.2.2.2.1 hc.2.2.2.2 e
  go := fun i v s Q E hm hQ => by
    obtain ⟨T, x, y, z, rfl, hx, hy, hz, hT, hlt, Z⟩ := hm
    refine wpAny_letOwnedTupleGo_zip Z.z fun h' hz' hs' => ?_
    have up : ∀ c o, c ≠ I + 5 → s.heap.get? c = some o → h'.get? c = some o := fun c o hc e => hs'.extBut _ _ hc e
    obtain ⟨hz0, hTI, ⟨a, b, c, hTO⟩, h1, h2, h3, hl1, hl2, hl3⟩ := Z
    have n1 : ∀ {a b : Nat}, a < b → a ≠ b := fun h => Nat.ne_of_lt h
    refine hQ h' ⟨T, x, y, z, rfl, hx, hy, hz, hT.at fun o e => up _ o (Nat.ne_of_gt hlt) e⟩ ⟨hz', up _ _ (n1 (by omega)) hTI, ⟨_, _, _, up _ _ (n1 (by omega)) hTO⟩, h1.at fun o e => up _ o (n1 (by omega)) e, h2.at fun o e => up _ o (n1 (by omega)) e,
      h3.at fun o e => up _ o (n1 (by omega)) e, hl1.at fun o e => up _ o (n1 (by omega)) e, hl2.at fun o e => up _ o (n1 (by omega)) e, hl3.at fun o e => up _ o (n1 (by omega)) e⟩ fun c o hc e => up c o (by simp at hc; exact hc.1) e
  done := fun s Q E st hQ => by
    have hT : s.TypeIs (.ref (I + 5)) "zip" := ⟨_, st.z, rfl⟩
    unfold pyNext
    refine wpAny_bind (wpAny_attempt (wpAny_callSpecial?_slot (name := Str.ofString "__next__") hT F.slot_zip_next
      (wpAny_call_entry F.slot_zip_next hT F.entry_zip_next (zip3_end hh d1 st (Array.getElem?_eq_none (Nat.le_refl _)) fun h' e hk he => ?_) (F.args_zip_next_1 _))))
    obtain ⟨o, ho, hc⟩ := he
    refine wpAny_bind (wpAny_isInstance (T := "StopIteration") (b := true) ⟨o, ho, hc⟩ isSubtype_stop ?_)
    refine wpAny_pure (hQ _ s.toks fun c o hc e => ?_)
    simp at hc
    exact hk c o hc.1 hc.2.1 hc.2.2.1 hc.2.2.2.1 hc.2.2.2.2 e
end
end
section
open PyProof.Rows.LCg (NsObj lst)
abbrev LedT := List (Addr × Obj)
/-- names bound, the last one first -/
def bindB : List (Str × Value) → (Str → Option Value) → (Str → Option Value)
  | [], m => m
  | p :: r, m => fun y => if y = p.1 then some p.2 else bindB r m y

/-- to assign v to the target in env binds bs, and touches nothing but the names' object -/
def Asn (prog : Program) (w : World) (A : Around) (target : PySem.Expr) (env : Env) (bs : List (Str × Value)) (v : Value) (h₁ : Heap) : Prop :=
  ∀ (s : Shared) (m : Str → Option Value) (Q : Unit → Shared → Prop) (E : Value → Shared → Prop), s.heap = h₁ → h₁.Ns env.locals m →
    (∀ h' tk, h'.Ns env.locals (bindB bs m) → (∀ c o, c ≠ env.locals → h₁.get? c = some o → h'.get? c = some o) → Q () { s with heap := h', toks := tk }) →
    wpAny (model prog w) A (assign target env v) Q E s

section
variable {prog : Program} {w : World} {A : Around} {env : Env} {x y z : Str} {px py pz tp : Pos} {kk : Nat} {v vx vy vz : Value} {h₁ : Heap}
theorem asn_name (hk : env.kindOf x = some .local) (hp : (env.scope.kind == .class || (env.scope.kind == .module && env.locals != env.globals)) = false) : Asn prog w A (.Name x px) env [(x, v)] v h₁ := by
  rintro s m Q E rfl hn hQ
  exact wpAny_assign_Name (wpAny_storeName_local hk hn (fun h' hn' hs => hQ h' _ hn' fun c o hc e => hs.extBut c o hc e) hp)
theorem asn_two (hh : A.handled = none) (ha : env.kindOf x = some .local) (hb : env.kindOf y = some .local) (hp : (env.scope.kind == .class || (env.scope.kind == .module && env.locals != env.globals)) = false)
    {T : Addr} (ht : h₁.IsTuple T #[vx, vy]) : Asn prog w A (.Tuple [.Name x px, .Name y py] kk tp) env [(y, vy), (x, vx)] (.ref T) h₁ := by
  rintro s m Q E rfl hn hQ
  exact kcp_assign hh ht ha hb hp hn hQ
theorem asn_three (hh : A.handled = none) (ha : env.kindOf x = some .local) (hb : env.kindOf y = some .local) (hc : env.kindOf z = some .local) (hp : (env.scope.kind == .class || (env.scope.kind == .module && env.locals != env.globals)) = false)
    {T : Addr} (ht : h₁.IsTuple T #[vx, vy, vz]) : Asn prog w A (.Tuple [.Name x px, .Name y py, .Name z pz] kk tp) env [(z, vz), (y, vy), (x, vx)] (.ref T) h₁ := by
  rintro s m Q E rfl hn hQ
  refine wpAny_assign_Tuple hh ht rfl rfl fun h₁ he₁ => ?_
  have hL : env.locals ≠ s.heap.objs.size := Nat.ne_of_lt hn.lt
  have hn₁ : h₁.Ns env.locals m := hn.at' fun o e => he₁ _ o hL e
  have up₁ : ∀ c o, s.heap.get? c = some o → h₁.get? c = some o := fun c o e => he₁ c o (Nat.ne_of_lt (Heap.lt_size e)) e
  show wpAny _ _ (assignInOrder [assign (.Name x px) env, assign (.Name y py) env, assign (.Name z pz) env] [vx, vy, vz]) _ _ _
  refine assignInOrder_cons ?_
  refine wpAny_assign_Name (wpAny_storeName_local ha hn₁ (fun h₂ hn₂ hs₂ => ?_) hp)
  refine assignInOrder_cons ?_
  refine wpAny_assign_Name (wpAny_storeName_local hb hn₂ (fun h₃ hn₃ hs₃ => ?_) hp)
  refine assignInOrder_cons ?_
  refine wpAny_assign_Name (wpAny_storeName_local hc hn₃ (fun h₄ hn₄ hs₄ => ?_) hp)
  refine assignInOrder_nil ?_
  exact hQ h₄ _ hn₄ fun c o hc e => hs₄.extBut c o hc (hs₃.extBut c o hc (hs₂.extBut c o hc (up₁ c o e)))
end

/-! ## a for loop whose turns make nothing that stays -/
def TEnd (h₀ : Heap) (L : Addr) (s₁ : Shared) (own news : LedT) (rest : (Str → Option Value) → Prop) (s₂ : Shared) : Prop :=
  ∃ h' tk m' all, s₂ = { s₁ with heap := h', toks := tk } ∧ Fr h₀ L h' m' ∧ News h₀ L h' all ∧ (∀ p ∈ own ++ news, p ∈ all) ∧ rest m'
def TPost (h₀ : Heap) (L : Addr) (s₁ : Shared) (own news : LedT) (rest : (Str → Option Value) → Prop) (Q : Flow → Shared → Prop) (f : Flow) (s₂ : Shared) : Prop :=
  match f with
  | .ret v => Q (.ret v) s₂
  | .brk => Q .next s₂
  | _ => TEnd h₀ L s₁ own news rest s₂
def PRest (prog : Program) (w : World) (A : Around) (E : Value → Shared → Prop) (h₀ : Heap) (env : Env) (body : List Stmt) (Q : Flow → Shared → Prop) (s : Shared) (news : LedT) : List (Tok → List (Str × Value)) → (Str → Option Value) → Prop
  | [], m => ∀ h tk, Fr h₀ env.locals h m → News h₀ env.locals h news → Q .next { s with heap := h, toks := tk }
  | b :: r, m => ∀ t own h tk, Fr h₀ env.locals h (bindB (b t) m) → News h₀ env.locals h (own ++ news) →
      wpAny (model prog w) A (execs body env) (TPost h₀ env.locals { s with heap := h, toks := tk } own news (PRest prog w A E h₀ env body Q s news r) Q) E { s with heap := h, toks := tk }

section
variable {prog : Program} {w : World} {A : Around} {E : Value → Shared → Prop} {s : Shared} {env : Env} {h₀ : Heap} {target : PySem.Expr} {body : List Stmt} {Q : Flow → Shared → Prop}
theorem TEnd.intro {L : Addr} {s₁ : Shared} {own news all : LedT} {rest : (Str → Option Value) → Prop} {h' : Heap} {tk : Nat} {m' : Str → Option Value} (F : Fr h₀ L h' m') (N : News h₀ L h' all) (hs : ∀ p ∈ own ++ news, p ∈ all) (r : rest m') :
    TEnd h₀ L s₁ own news rest { s₁ with heap := h', toks := tk } := ⟨h', tk, m', all, rfl, F, N, hs, r⟩
theorem PRest.zero {news : LedT} {m : Str → Option Value} (h : ∀ h tk, Fr h₀ env.locals h m → News h₀ env.locals h news → Q .next { s with heap := h, toks := tk }) : PRest prog w A E h₀ env body Q s news [] m := h
theorem PRest.succ {news : LedT} {m : Str → Option Value} {b : Tok → List (Str × Value)} {r : List (Tok → List (Str × Value))} (h : ∀ t own h tk, Fr h₀ env.locals h (bindB (b t) m) → News h₀ env.locals h (own ++ news) →
      wpAny (model prog w) A (execs body env) (TPost h₀ env.locals { s with heap := h, toks := tk } own news (PRest prog w A E h₀ env body Q s news r) Q) E { s with heap := h, toks := tk }) : PRest prog w A E h₀ env body Q s news (b :: r) m := h

theorem pure_for {I : Addr} {fp wr : List Addr} {n : Nat} {P Md : Nat → Value → Heap → Prop} {St : Nat → Heap → Prop} {m₀ : Str → Option Value} {news : LedT} {hp : Heap} {tk0 : Nat} (items : List (Tok → List (Str × Value)))
    (W : KTurns prog w A target I fp wr n P Md St) (hn : n = items.length) (hP : ∀ i v h, P i v h → ∃ b t, items[i]? = some b ∧ Asn prog w A target env (b t) v h)
    (hL : env.locals ∉ fp) (hwr : ∀ b ∈ wr, h₀.get? b = none) (hnw : ∀ p ∈ news, p.1 ∉ wr) (hst : St 0 hp) (F : Fr h₀ env.locals hp m₀) (N : News h₀ env.locals hp news)
    (rest : PRest prog w A E h₀ env body Q s news items m₀) : TurnsAt prog w A h₀ env target body Q E (.ref I) { s with heap := hp, toks := tk0 } := by
  let J : Nat → (Str → Option Value) → LedT → Prop := fun i m₁ news₁ => news₁ = news ∧ PRest prog w A E h₀ env body Q s news (items.drop i) m₁
  refine ⟨I, fp, wr, n, P, Md, St, m₀, news, J, rfl, W, hL, hwr, hnw, hst, F, N, ⟨rfl, by rw [List.drop_zero]; exact rest⟩, ?_, ?_⟩
  · intro i v m₁ news₁ h₁ tk₁ own hin hPi hJ hoff hown hget hall hst₁ F₁ N₁
    obtain ⟨rfl, hJ⟩ := hJ
    obtain ⟨b, t, hb, ha⟩ := hP i v h₁ hPi
    have hdrop : items.drop i = b :: items.drop (i + 1) := by
      have hlt' : i < items.length := hn ▸ hin
      rw [List.drop_eq_getElem_cons hlt']
      congr 1
      exact Option.some.inj ((List.getElem?_eq_getElem hlt').symm.trans hb)
    have hJ' : PRest prog w A E h₀ env body Q s news₁ (b :: items.drop (i + 1)) m₁ := by rw [← hdrop]; exact hJ
    refine ha _ m₁ _ _ rfl F₁.ns fun h' tk' hn' hk => ?_
    have F₂ : Fr h₀ env.locals h' (bindB (b t) m₁) := ⟨hn', fun c o e => hk c o (Nat.ne_of_lt (Nat.lt_of_lt_of_le (Heap.lt_size e) F₁.above)) (F₁.keep c o e), F₁.above⟩
    have N₂ : News h₀ env.locals h' (own ++ news₁) := fun p hp => ⟨hk _ _ (N₁ p hp).2.1 (N₁ p hp).1, (N₁ p hp).2⟩
    have fin : ∀ s₃, TEnd h₀ env.locals { s with heap := h', toks := tk' } own news₁ (PRest prog w A E h₀ env body Q s news₁ (items.drop (i + 1))) s₃ → LoopStepU h₀ env.locals wr own (J (i + 1)) { s with heap := h₁, toks := tk₁ } .next s₃ := by
      rintro s₃ ⟨h₃, tk₃, m₃, all, e, F₃, N₃, hs, r⟩
      exact ⟨rfl, h₃, tk₃, m₃, news₁, e, F₃, fun p hp => N₃ p (hs p hp), hoff, rfl, r⟩
    refine wpAny_mono (hJ' t own h' tk' F₂ N₂) (fun f s₃ p => ?_) fun _ _ e => e
    cases f with
    | ret v => exact .ret p
    | brk => exact .brk p
    | next => exact .next (fin _ p)
    | cont => exact .cont (fin _ p)
  · intro h' tk m' news' F' N' _ hJ
    obtain ⟨rfl, hJ⟩ := hJ
    have z : items.drop n = [] := List.drop_eq_nil_of_le (Nat.le_of_eq hn.symm)
    rw [z] at hJ
    exact hJ h' tk F' N'
theorem pnew {L b : Addr} {h : Heap} {m : Str → Option Value} (F : Fr h₀ L h m) (hb : h.objs.size ≤ b) : h₀.get? b = none := ktu_new F hb

/-- over a tuple of the ledger -/
theorem for_tup {x : Str} {px : Pos} {ax : Addr} {vs : List Value} {k : Nat} {m₀ : Str → Option Value} {news : LedT} (hh : A.handled = none) (F : Fr h₀ env.locals s.heap m₀) (N : News h₀ env.locals s.heap news)
    (hm : (ax, ({ cls := .type "tuple", data := .seq vs.toArray k } : Obj)) ∈ news) (hk : env.kindOf x = some .local) (hp : (env.scope.kind == .class || (env.scope.kind == .module && env.locals != env.globals)) = false)
    (rest : PRest prog w A E h₀ env body Q s news (vs.map fun v _ => [(x, v)]) m₀) :
    wpAny (model prog w) A (pyIter (.ref ax)) (fun it s₂ => TurnsAt prog w A h₀ env (.Name x px) body Q E it s₂) E s := by
  have hax := N _ hm
  have hl : s.heap.IsTuple ax vs.toArray := ⟨_, hax.1, rfl, _, rfl⟩
  have hlt : ax < s.heap.objs.size := Heap.lt_size hax.1
  have hne : ax ≠ s.heap.objs.size := Nat.ne_of_lt hlt
  refine wpAny_pyIter_tuple hl ?_
  refine pure_for (tk0 := s.toks) (vs.map fun v _ => [(x, v)]) (KTurns.ofWalks (Walks.tuple hh s.heap.objs.size ax hne vs.toArray) fun i v s Q E st q => letGo_tupleiter st.1 q) (by simp) (fun i v h hp' => ⟨fun _ => [(x, v)], 0, ?_, asn_name hk hp⟩) ?_ (fun b hb => ?_) (fun p hp hI => ?_) ?_ (F.push _) (fun p hp => ⟨Heap.get?_push_of_some _ (N p hp).1, (N p hp).2⟩) rest
  · have hp'' : vs.toArray[i]? = some v := hp'
    have : vs[i]? = some v := by simpa using hp''
    simp [this]
  · intro hI
    rcases List.mem_cons.mp hI with e | hI
    · exact absurd F.ns.lt (e ▸ Nat.lt_irrefl _)
    · exact hax.2.1 (List.mem_singleton.mp hI).symm
  · rw [List.mem_singleton.mp hb]; exact next_is_new F
  · exact absurd (Heap.lt_size (N p hp).1) ((List.mem_singleton.mp hI) ▸ Nat.lt_irrefl _)
  · exact ⟨⟨_, Heap.get?_push_size _ rfl, rfl, rfl⟩, hl.at fun o e => Heap.get?_push_of_some _ e⟩

/-- over a range by ones -/
theorem for_range {x : Str} {px : Pos} {r : Addr} {a₀ b₀ : Int} {t₀ u₀ v₀ : Tok} {n : Nat} {m₀ : Str → Option Value} {news : LedT} (hh : A.handled = none) (hr : IsRange s.heap r a₀ b₀ 1 t₀ u₀ v₀) (hsmall : Builtin.Range.small a₀ b₀ 1 = true)
    (hsz : Builtin.Range.rangeSize a₀ b₀ 1 = (n : Int)) (F : Fr h₀ env.locals s.heap m₀) (N : News h₀ env.locals s.heap news) (hk : env.kindOf x = some .local) (hp : (env.scope.kind == .class || (env.scope.kind == .module && env.locals != env.globals)) = false)
    (rest : PRest prog w A E h₀ env body Q s news ((List.range n).map fun (i : Nat) t => [(x, .int (a₀ + (i : Int)) t)]) m₀) :
    wpAny (model prog w) A (pyIter (.ref r)) (fun it s₂ => TurnsAt prog w A h₀ env (.Name x px) body Q E it s₂) E s := by
  refine wpAny_pyIter_range hr hsmall ?_
  have W : Walks prog w A s.heap.objs.size [s.heap.objs.size] [s.heap.objs.size] n (fun i v => i < n ∧ ∃ t, v = .int (a₀ + i * 1) t)
      (fun i h => IsRangeIter h s.heap.objs.size (a₀ + (i : Nat) * 1) ((n : Int) - (i : Nat)) 1) := (Walks.range hh _ a₀ 1 n).bound
  refine pure_for (tk0 := s.toks) ((List.range n).map fun (i : Nat) t => [(x, .int (a₀ + (i : Int)) t)]) (KTurns.ofWalks W fun i v s Q E st q => ?_) (by simp) (fun i v h hp' => ?_) ?_ (fun b hb => ?_) (fun p hp hI => ?_) ?_ (F.push _) (fun p hp => ⟨Heap.get?_push_of_some _ (N p hp).1, (N p hp).2⟩) rest
  · first
      | exact wpAny_of_eq rfl (wpAny_pure q)
      | (show wpAny _ _ (pure ()) _ _ _; exact wpAny_pure q)
  · obtain ⟨hi, t, rfl⟩ := hp'
    exact ⟨fun t => [(x, .int (a₀ + (i : Int)) t)], t, by simp [hi], by rw [Int.mul_one]; exact asn_name hk hp⟩
  · intro hI
    exact absurd F.ns.lt ((List.mem_singleton.mp hI) ▸ Nat.lt_irrefl _)
  · rw [List.mem_singleton.mp hb]; exact next_is_new F
  · exact absurd (Heap.lt_size (N p hp).1) ((List.mem_singleton.mp hI) ▸ Nat.lt_irrefl _)
  · show IsRangeIter _ _ _ _ _
    rw [hsz]
    simpa using Heap.get?_push_size _ rfl

def trip3 (x y z : Str) : List Value → List Value → List Value → List (Tok → List (Str × Value))
  | a :: as, b :: bs, c :: cs => (fun _ => [(z, c), (y, b), (x, a)]) :: trip3 x y z as bs cs
  | _, _, _ => []
theorem trip3_get {x y z : Str} : ∀ {as bs cs : List Value} {i : Nat} {a b c : Value}, as[i]? = some a → bs[i]? = some b → cs[i]? = some c → (trip3 x y z as bs cs)[i]? = some fun _ => [(z, c), (y, b), (x, a)]
  | a :: as, b :: bs, c :: cs, 0, _, _, _, h1, h2, h3 => by cases h1; cases h2; cases h3; rfl
  | a :: as, b :: bs, c :: cs, i + 1, _, _, _, h1, h2, h3 => by
    have := trip3_get (x := x) (y := y) (z := z) (i := i) (as := as) (bs := bs) (cs := cs) (by simpa using h1) (by simpa using h2) (by simpa using h3)
    simpa [trip3] using this
  | [], _, _, _, _, _, _, h1, _, _ => by simp at h1
  | _ :: _, [], _, _, _, _, _, _, h2, _ => by simp at h2
  | _ :: _, _ :: _, [], _, _, _, _, _, _, h3 => by simp at h3
theorem trip3_length {x y z : Str} : ∀ {as bs cs : List Value}, bs.length = as.length → cs.length = as.length → (trip3 x y z as bs cs).length = as.length
  | [], [], [], _, _ => rfl
  | _ :: as, _ :: bs, _ :: cs, h1, h2 => by
    have := trip3_length (x := x) (y := y) (z := z) (as := as) (bs := bs) (cs := cs) (by simpa using h1) (by simpa using h2)
    simp [trip3, this]
  | [], _ :: _, _, h, _ => by simp at h
  | [], [], _ :: _, _, h => by simp at h
  | _ :: _, [], _, h, _ => by simp at h
  | _ :: _, _ :: _, [], _, h => by simp at h

/-- over zip of three tuples of the ledger, as long as each other -/
theorem for_zip3 {x y z : Str} {px py pz tp : Pos} {kk : Nat} {l1 l2 l3 : Addr} {us vs ws : List Value} {k1 k2 k3 : Nat} {m₀ : Str → Option Value} {news : LedT} (hh : A.handled = none) (F : Fr h₀ env.locals s.heap m₀) (N : News h₀ env.locals s.heap news)
    (hm1 : (l1, ({ cls := .type "tuple", data := .seq us.toArray k1 } : Obj)) ∈ news) (hm2 : (l2, ({ cls := .type "tuple", data := .seq vs.toArray k2 } : Obj)) ∈ news) (hm3 : (l3, ({ cls := .type "tuple", data := .seq ws.toArray k3 } : Obj)) ∈ news)
    (e2 : vs.length = us.length) (e3 : ws.length = us.length)
    (ha : env.kindOf x = some .local) (hb : env.kindOf y = some .local) (hc : env.kindOf z = some .local) (hp : (env.scope.kind == .class || (env.scope.kind == .module && env.locals != env.globals)) = false)
    (rest : PRest prog w A E h₀ env body Q s news (trip3 x y z us vs ws) m₀) :
    wpAny (model prog w) A (call (.type "zip") [.ref l1, .ref l2, .ref l3]) (fun xv s₁ => wpAny (model prog w) A (pyIter xv) (fun it s₂ => TurnsAt prog w A h₀ env (.Tuple [.Name x px, .Name y py, .Name z pz] kk tp) body Q E it s₂) E s₁) E s := by
  have a1 := N _ hm1
  have a2 := N _ hm2
  have a3 := N _ hm3
  have t1 : s.heap.IsTuple l1 us.toArray := ⟨_, a1.1, rfl, _, rfl⟩
  have t2 : s.heap.IsTuple l2 vs.toArray := ⟨_, a2.1, rfl, _, rfl⟩
  have t3 : s.heap.IsTuple l3 ws.toArray := ⟨_, a3.1, rfl, _, rfl⟩
  have q1 : l1 < s.heap.objs.size := Heap.lt_size a1.1
  have q2 : l2 < s.heap.objs.size := Heap.lt_size a2.1
  have q3 : l3 < s.heap.objs.size := Heap.lt_size a3.1
  have hLs : env.locals < s.heap.objs.size := F.ns.lt
  refine call_zip3 t1 t2 t3 fun h' Z k => ?_
  refine wpAny_pyIter_zip Z.z ?_
  have F' : Fr h₀ env.locals h' m₀ := F.keeps k
  refine pure_for (tk0 := s.toks) (trip3 x y z us vs ws) (turns_zip3 hh q1 q2 q3 us.toArray vs.toArray ws.toArray (by simpa using e2) (by simpa using e3)) (by rw [trip3_length e2 e3]; simp) (fun i v h hp' => ?_) ?_ (fun b hb => ?_) (fun p hp hI => ?_) Z F' (N.grown k) rest
  · obtain ⟨T, a, b, c, rfl, h1, h2, h3, hT⟩ := hp'
    exact ⟨_, 0, trip3_get (by simpa using h1) (by simpa using h2) (by simpa using h3), asn_three hh ha hb hc hp hT⟩
  · intro hI
    have n1 := a1.2.1
    have n2 := a2.2.1
    have n3 := a3.2.1
    simp only [List.mem_cons, List.not_mem_nil, or_false] at hI
    rcases hI with e | e | e | e | e | e | e | e | e
    · exact ktu_ne 5 hLs e
    · exact ktu_ne 3 hLs e
    · exact ktu_ne 4 hLs e
    · exact Nat.ne_of_lt hLs e
    · exact ktu_ne 1 hLs e
    · exact ktu_ne 2 hLs e
    · exact n1 e.symm
    · exact n2 e.symm
    · exact n3 e.symm
  · simp only [List.mem_cons, List.not_mem_nil, or_false] at hb
    rcases hb with rfl | rfl | rfl | rfl | rfl
    · exact ktu_new F (Nat.le_add_right _ _)
    · exact ktu_new F (Nat.le_add_right _ _)
    · exact ktu_new F (Nat.le_refl _)
    · exact ktu_new F (Nat.le_add_right _ _)
    · exact ktu_new F (Nat.le_add_right _ _)
  · have hlp := Heap.lt_size (N p hp).1
    simp only [List.mem_cons, List.not_mem_nil, or_false] at hI
    rcases hI with e | e | e | e | e
    · exact ktu_ne 5 hlp e
    · exact ktu_ne 4 hlp e
    · exact Nat.ne_of_lt hlp e
    · exact ktu_ne 1 hlp e
    · exact ktu_ne 2 hlp e
end
end
section
open PyProof.Rows.LCg (NsObj lst ns_obj lst_snoc)
/-- the turns of a list comprehension, its targets and tests whatever they are -/
theorem comp_loop {prog : Program} {w : World} {A : Around} {R : Result → Shared → Prop} {s : Shared} {elt target iter : PySem.Expr} {ifs : List PySem.Expr} {scope : Scope} {pos : Pos} {it acc : Value} {env : Env} (I : Nat → Shared → Prop)
    (turn : ∀ n s, I n s → wpAny (model prog w) A (pyNext it) (fun r s₁ => match r with
      | none => R (.ok .next) s₁
      | some v => wpAny (model prog w) A (letOwnedTupleGo target it v) (fun _ s₀ => wpAny (model prog w) A (assign target env v) (fun _ s₂ =>
          wpAny (model prog w) A (forIn ifs true fun c r => if r = true then do let ok ← isTrue c env (eval c env); pure (ForInStep.yield ok) else pure (ForInStep.yield r)) (fun ok s₃ =>
            if ok = true then wpAny (model prog w) A (eval elt env) (fun x s₄ =>
              wpAny (model prog w) A (call (.builtin "list.append") [acc, x]) (fun _ s₅ => ∃ m, m < n ∧ I m s₅) (notedBy (model prog w) A env fun e s' => R (.error e) s') s₄) (notedBy (model prog w) A env fun e s' => R (.error e) s') s₃
            else ∃ m, m < n ∧ I m s₃) (notedBy (model prog w) A env fun e s' => R (.error e) s') s₂) (notedBy (model prog w) A env fun e s' => R (.error e) s') s₀) (notedBy (model prog w) A env fun e s' => R (.error e) s') s₁) (notedBy (model prog w) A env fun e s' => R (.error e) s') s)
    (n : Nat) (h : I n s) : codeAny (model prog w) A (.compLoop (.ListComp elt [⟨target, iter, ifs, 0⟩] scope pos) 0 it acc env) R s := by
  refine codeAny_loop rfl I (fun n s hI => ?_) n h
  show wpAny _ A ((compTurn (.ListComp elt [⟨target, iter, ifs, 0⟩] scope pos) 0 it acc env).onRaise (fun x => do noteFrame x env; theTreesLotGoes x)) _ _ s
  refine wpAny_noted ?_
  rw [compTurn_list]
  refine wpAny_bind (wpAny_standAt (wpAny_bind (wpAny_mono (turn n s hI) (fun r s₁ h₁ => ?_) fun _ _ h' => h')))
  cases r with
  | none => exact wpAny_pure h₁
  | some v =>
    refine wpAny_bind (wpAny_mono h₁ (fun _ s₀ h₀' => ?_) fun _ _ h' => h')
    refine wpAny_bind (wpAny_mono h₀' (fun _ s₂ h₂ => wpAny_bind (wpAny_mono h₂ (fun ok s₃ h₃ => ?_) fun _ _ h' => h')) fun _ _ h' => h')
    cases ok with
    | false => exact wpAny_pure ⟨rfl, h₃⟩
    | true =>
      exact wpAny_bind (wpAny_bind (wpAny_mono h₃ (fun x s₄ h₄ => wpAny_bind (wpAny_mono h₄ (fun _ s₅ h₅ => wpAny_pure (wpAny_pure ⟨rfl, h₅⟩)) fun _ _ h' => h')) fun _ _ h' => h'))

abbrev Wr := List Addr × List Addr
/-- of a comprehension: what it writes (and what it may read) is its own -/
structure OwnW (wr : Wr) (own : LedT) : Prop where
  wo : ∀ a ∈ wr.1, ∃ o, (a, o) ∈ own
  fo : ∀ p ∈ own, p.1 ∈ wr.2
def COff (wr : Wr) (C D : Addr) (news : LedT) : Prop := ∀ p ∈ news, p.1 ∉ wr.1 ∧ p.1 ≠ C ∧ p.1 ≠ D
def CEnd (h₀ : Heap) (L : Addr) (m : Str → Option Value) (s₁ : Shared) (wr : Wr) (own : LedT) (C : Addr) (oC : Obj) (D : Addr) (ys : List Value) (rest : Value → LedT → Prop) (y : Value) (s₂ : Shared) : Prop :=
  ∃ h' tk news', s₂ = { s₁ with heap := h', toks := tk } ∧ Fr h₀ L h' m ∧ News h₀ L h' ((C, oC) :: (D, lst ys) :: (own ++ news')) ∧ COff wr C D news' ∧ rest y news'
def Has (m : Str → Option Value) : List (Str × Value) → Prop
  | [] => True
  | p :: l => m p.1 = some p.2 ∧ Has m l
theorem Has.mono {m m' : Str → Option Value} : ∀ {l : List (Str × Value)}, (∀ p ∈ l, m p.1 = some p.2 → m' p.1 = some p.2) → Has m l → Has m' l
  | [], _, _ => trivial
  | p :: r, h, x => ⟨h p (.head _) x.1, Has.mono (fun q hq => h q (.tail _ hq)) x.2⟩
def distinct : List (Str × Value) → Prop
  | [] => True
  | p :: l => (∀ q ∈ l, q.1 ≠ p.1) ∧ distinct l
theorem has_bind {m : Str → Option Value} : ∀ {l : List (Str × Value)}, distinct l → Has (bindB l m) l
  | [], _ => trivial
  | p :: r, d => by
    refine ⟨by simp [bindB], Has.mono (fun q hq e => ?_) (has_bind (m := m) d.2)⟩
    show (if q.1 = p.1 then some p.2 else bindB r m q.1) = some q.2
    rw [if_neg (d.1 q hq)]
    exact e

def CRest (prog : Program) (w : World) (A : Around) (h₀ : Heap) (L : Addr) (m : Str → Option Value) (env : Env) (ifs : List PySem.Expr) (elt : PySem.Expr) (scope : Scope) (cl : List (Str × Addr)) (s : Shared) (wr : Wr)
    (Fin : List Value → LedT → Prop) : List (Tok → List (Str × Value)) → List Value → LedT → Prop
  | [], ys, news => Fin ys news
  | b :: r, ys, news => ∀ t own C oC D m₂ h tk (E' : Value → Shared → Prop), NsObj oC m₂ → Has m₂ (b t) → Fr h₀ L h m → News h₀ L h ((C, oC) :: (D, lst ys) :: (own ++ news)) → COff wr C D news → OwnW wr own →
      wpAny (model prog w) A (forIn ifs true fun c r => if r = true then do let ok ← isTrue c (compEnvC scope cl C env) (eval c (compEnvC scope cl C env)); pure (ForInStep.yield ok) else pure (ForInStep.yield r)) (fun ok s' => if ok = true then
        wpAny (model prog w) A (eval elt (compEnvC scope cl C env)) (CEnd h₀ L m { s with heap := h, toks := tk } wr own C oC D ys (fun y news' => CRest prog w A h₀ L m env ifs elt scope cl s wr Fin r (ys ++ [y]) news')) E' s'
        else CEnd h₀ L m { s with heap := h, toks := tk } wr own C oC D ys (fun _ news' => CRest prog w A h₀ L m env ifs elt scope cl s wr Fin r ys news') Value.none s') E' { s with heap := h, toks := tk }

section
variable {prog : Program} {w : World} {A : Around} {E : Value → Shared → Prop} {s : Shared} {h₀ : Heap} {L : Addr} {m : Str → Option Value} {env : Env}
theorem CEnd.intro {s₁ : Shared} {wr : Wr} {own news' all : LedT} {C : Addr} {oC : Obj} {D : Addr} {ys : List Value} {rest : Value → LedT → Prop} {y : Value} {h' : Heap} {tk : Nat} (F : Fr h₀ L h' m) (N : News h₀ L h' all)
    (hs : ∀ p ∈ (C, oC) :: (D, lst ys) :: (own ++ news'), p ∈ all) (off : COff wr C D news') (r : rest y news') : CEnd h₀ L m s₁ wr own C oC D ys rest y { s₁ with heap := h', toks := tk } :=
  ⟨h', tk, news', rfl, F, fun p hp => N p (hs p hp), off, r⟩
theorem CRest.zero {ifs : List PySem.Expr} {elt : PySem.Expr} {scope : Scope} {cl : List (Str × Addr)} {wr : Wr} {Fin : List Value → LedT → Prop} {ys : List Value} {news : LedT} (h : Fin ys news) :
    CRest prog w A h₀ L m env ifs elt scope cl s wr Fin [] ys news := h
/-- a turn without a test -/
theorem CRest.plain {elt : PySem.Expr} {scope : Scope} {cl : List (Str × Addr)} {wr : Wr} {Fin : List Value → LedT → Prop} {ys : List Value} {news : LedT} {b : Tok → List (Str × Value)} {r : List (Tok → List (Str × Value))}
    (h : ∀ t own C oC D m₂ h tk (E' : Value → Shared → Prop), NsObj oC m₂ → Has m₂ (b t) → Fr h₀ L h m → News h₀ L h ((C, oC) :: (D, lst ys) :: (own ++ news)) → COff wr C D news → OwnW wr own →
        wpAny (model prog w) A (eval elt (compEnvC scope cl C env)) (CEnd h₀ L m { s with heap := h, toks := tk } wr own C oC D ys (fun y news' => CRest prog w A h₀ L m env [] elt scope cl s wr Fin r (ys ++ [y]) news')) E' { s with heap := h, toks := tk }) :
    CRest prog w A h₀ L m env [] elt scope cl s wr Fin (b :: r) ys news := by
  intro t own C oC D m₂ h' tk E' h1 h2 h3 h4 h5 h6
  refine wpAny_tests_nil ?_
  simp only [if_true]
  exact h t own C oC D m₂ h' tk E' h1 h2 h3 h4 h5 h6
/-- a turn with one test -/
theorem CRest.test {ct elt : PySem.Expr} {scope : Scope} {cl : List (Str × Addr)} {wr : Wr} {Fin : List Value → LedT → Prop} {ys : List Value} {news : LedT} {b : Tok → List (Str × Value)} {r : List (Tok → List (Str × Value))}
    (h : ∀ t own C oC D m₂ h tk (E' : Value → Shared → Prop), NsObj oC m₂ → Has m₂ (b t) → Fr h₀ L h m → News h₀ L h ((C, oC) :: (D, lst ys) :: (own ++ news)) → COff wr C D news → OwnW wr own →
      wpAny (model prog w) A (isTrue ct (compEnvC scope cl C env) (eval ct (compEnvC scope cl C env))) (fun ok s' => if ok = true then
        wpAny (model prog w) A (eval elt (compEnvC scope cl C env)) (CEnd h₀ L m { s with heap := h, toks := tk } wr own C oC D ys (fun y news' => CRest prog w A h₀ L m env [ct] elt scope cl s wr Fin r (ys ++ [y]) news')) E' s'
        else CEnd h₀ L m { s with heap := h, toks := tk } wr own C oC D ys (fun _ news' => CRest prog w A h₀ L m env [ct] elt scope cl s wr Fin r ys news') Value.none s') E' { s with heap := h, toks := tk }) :
    CRest prog w A h₀ L m env [ct] elt scope cl s wr Fin (b :: r) ys news := by
  intro t own C oC D m₂ h' tk E' h1 h2 h3 h4 h5 h6
  exact wpAny_tests_one (h t own C oC D m₂ h' tk E' h1 h2 h3 h4 h5 h6)

set_option maxHeartbeats 2000000 in
theorem cblock {target elt iter : PySem.Expr} {ifs : List PySem.Expr} {scope : Scope} {cl : List (Str × Addr)} {pos : Pos} {s₂ : Shared} {I : Addr} {fp wr : List Addr} {n : Nat} {P Md : Nat → Value → Heap → Prop} {St : Nat → Heap → Prop} {news : LedT}
    {Fin : List Value → LedT → Prop} {RR : Value → Addr → Result → Shared → Prop} (items : List (Tok → List (Str × Value)))
    (W : KTurns prog w A target I fp wr n P Md St) (hself : ∀ (s : Shared) (Q : Value → Shared → Prop) (E : Value → Shared → Prop), St 0 s.heap → Q (.ref I) s → wpAny (model prog w) A (pyIter (.ref I)) Q E s)
    (hsz : n ≤ sizeLine) (hn : n = items.length) (hP : ∀ i v h C, P i v h → ∃ b t, items[i]? = some b ∧ distinct (b t) ∧ Asn prog w A target (compEnvC scope cl C env) (b t) v h)
    (hobj : ∀ i h, St i h → ∀ b ∈ wr, ∃ o, h.get? b = some o)
    (hcell : ∀ y ∈ scope.names, y.2 ≠ .cell) (hkind : scope.kind = .function) (hst : St 0 s₂.heap) (hfp : ∀ b ∈ fp, b < s₂.heap.objs.size)
    (F : Fr h₀ L s₂.heap m) (N : News h₀ L s₂.heap news) (hLf : L ∉ fp) (hwr : ∀ b ∈ wr, h₀.get? b = none) (off : ∀ p ∈ news, p.1 ∉ wr)
    (R : CRest prog w A h₀ L m env ifs elt scope cl s₂ (wr, fp) Fin items [] news)
    (hRR : ∀ D C h tk m' ys news', Fr h₀ L h m → News h₀ L h ((D, lst ys) :: news') → (∀ p ∈ news', p.1 ≠ D) → AllLt D news → h.Ns C m' → h₀.get? C = none → h₀.get? D = none → C ≠ L → D ≠ L → C ≠ D → (∀ p ∈ news', p.1 ≠ C) → Fin ys news' → RR (.ref D) C (.ok .next) { s₂ with heap := h, toks := tk }) :
    wpAny (model prog w) A (newList []) (fun acc s₃ => wpAny (model prog w) A (newFunctionEnv scope env.globals cl [] env.qual none .none (some env)) (fun cenv s₄ =>
      codeAny (model prog w) A (.compStart (.ListComp elt [⟨target, iter, ifs, 0⟩] scope pos) 0 (.ref I) acc { cenv with scope := relabel scope env }) (RR acc cenv.locals) s₄) E s₃) E s₂ := by
  refine wpAny_newObj_type (wpAny_newFunctionEnv hcell (by intro y hy; simp at hy) (fun h₁ hns₁ hsb₁ => ?_) hkind)
  dsimp only at hns₁ hsb₁ ⊢
  generalize hH2 : s₂.heap.push { cls := .type "list", dict := none, data := .seq ([] : List Value).toArray } = H2 at hns₁ hsb₁ ⊢
  have hC : H2.objs.size = s₂.heap.objs.size + 1 := by rw [← hH2, Heap.size_push]
  have hDC : s₂.heap.objs.size ≠ H2.objs.size := by rw [hC]; exact Nat.ne_of_lt (Nat.lt_succ_self _)
  have below : ∀ b, b < s₂.heap.objs.size → b ≠ H2.objs.size ∧ b ≠ s₂.heap.objs.size := fun b hb => ⟨by rw [hC]; exact Nat.ne_of_lt (Nat.lt_succ_of_lt hb), Nat.ne_of_lt hb⟩
  have hDf : s₂.heap.objs.size ∉ fp := fun hm => Nat.lt_irrefl _ (hfp _ hm)
  have hCf : H2.objs.size ∉ fp := fun hm => by have := hfp _ hm; rw [hC] at this; exact Nat.lt_irrefl _ (Nat.lt_of_succ_lt this)
  have hDw : s₂.heap.objs.size ∉ wr := fun hm => hDf (W.sub _ hm)
  have hCw : H2.objs.size ∉ wr := fun hm => hCf (W.sub _ hm)
  have hLw : L ∉ wr := fun hm => hLf (W.sub _ hm)
  have old₀ : ∀ b o, h₀.get? b = some o → b ∉ wr := fun b o e hb => by rw [hwr b hb] at e; cases e
  have old : ∀ b o, s₂.heap.get? b = some o → h₁.get? b = some o := fun b o e => hsb₁.extBut b o (below b (Heap.lt_size e)).1 (Heap.get?_push_of_some _ (hH2 ▸ Heap.get?_push_of_some _ e))
  have hacc : h₁.get? s₂.heap.objs.size = some (lst []) := hsb₁.extBut _ _ hDC (Heap.get?_push_of_some _ (hH2 ▸ Heap.get?_push_size _ rfl))
  have hst₁ : St 0 h₁ := W.frame _ _ _ hst fun b _ o e => old b o e
  have fresh : ∀ a, s₂.heap.objs.size ≤ a → s₂.heap.get? a = none := fun a ha => by
    cases e : s₂.heap.get? a with
    | none => rfl
    | some o' => exact absurd (Heap.lt_size e) (Nat.not_lt.mpr ha)
  have fresh₀ : ∀ a, s₂.heap.objs.size ≤ a → h₀.get? a = none := fun a ha => by
    cases e : h₀.get? a with
    | none => rfl
    | some o' => have := F.keep a o' e; rw [fresh a ha] at this; cases this
  have hD₀ : h₀.get? s₂.heap.objs.size = none := fresh₀ _ (Nat.le_refl _)
  have hC₀ : h₀.get? H2.objs.size = none := fresh₀ _ (by rw [hC]; exact Nat.le_succ _)
  have hLlt : L < s₂.heap.objs.size := F.ns.lt
  have hDL : s₂.heap.objs.size ≠ L := Ne.symm (below L hLlt).2
  have hCL : H2.objs.size ≠ L := Ne.symm (below L hLlt).1
  have off₀ : COff (wr, fp) H2.objs.size s₂.heap.objs.size news := fun p hp => ⟨off p hp, (below _ (Heap.lt_size (N p hp).1)).1, (below _ (Heap.lt_size (N p hp).1)).2⟩
  have loop : ∀ s₃ : Shared, s₃ = { s₂ with heap := h₁, toks := s₂.toks + ([] : List (Str × Value)).length } →
      codeAny (model prog w) A (.compLoop (.ListComp elt [⟨target, iter, ifs, 0⟩] scope pos) 0 (.ref I) (.ref s₂.heap.objs.size) (compEnvC scope cl H2.objs.size env))
        (RR (.ref s₂.heap.objs.size) H2.objs.size) s₃ := by
    rintro s₃ rfl
    refine comp_loop
      (fun k s' => ∃ h' tk i ys m' news', s' = { s₂ with heap := h', toks := tk } ∧ i ≤ n ∧ k = n + 1 - i ∧ ys.length ≤ i ∧ St i h' ∧ Fr h₀ L h' m ∧ h'.Ns H2.objs.size m' ∧ News h₀ L h' ((s₂.heap.objs.size, lst ys) :: news') ∧
        COff (wr, fp) H2.objs.size s₂.heap.objs.size news' ∧ CRest prog w A h₀ L m env ifs elt scope cl s₂ (wr, fp) Fin (items.drop i) ys news') ?_ (n + 1)
      ⟨h₁, _, 0, [], _, news, rfl, Nat.zero_le _, rfl, Nat.le_refl _, hst₁, F.keeps old, hns₁, fun p hp => ?_, off₀, by rw [List.drop_zero]; exact R⟩
    · rintro k s' ⟨h', tk, i, ys, m', news', rfl, hi, rfl, hyl, hst', F', hn', N', off', R'⟩
      have next : ∀ h₁ : Heap, (∀ b o, b ∉ wr → h'.get? b = some o → h₁.get? b = some o) → Fr h₀ L h₁ m ∧ News h₀ L h₁ ((s₂.heap.objs.size, lst ys) :: news') ∧ h₁.Ns H2.objs.size m' := fun h₁ hk₁ =>
        ⟨⟨F'.ns.at' fun o e => hk₁ _ o hLw e, fun b o e => hk₁ b o (old₀ b o e) (F'.keep b o e), F'.above⟩, fun p hp => by
          rcases List.mem_cons.mp hp with rfl | hp
          · exact ⟨hk₁ _ _ hDw (N' _ (.head _)).1, (N' _ (.head _)).2⟩
          · exact ⟨hk₁ _ _ (off' p hp).1 (N' p (.tail _ hp)).1, (N' p (.tail _ hp)).2⟩, hn'.at' fun o e => hk₁ _ o hCw e⟩
      by_cases hlt : i < n
      · refine W.item i _ _ _ hlt hst' fun v h₂ tk₂ hMd hk₂ => ?_
        refine W.go i v _ _ _ hMd fun h₃ hPv hst₃ hk₃ => ?_
        obtain ⟨F₃, N₃, hn₃⟩ := next h₃ fun b o hb e => hk₃ b o hb (hk₂ b o hb e)
        obtain ⟨b, t, hb, hd, ha⟩ := hP i v h₃ H2.objs.size hPv
        refine ha _ m' _ _ rfl hn₃ fun h₄ tk₄ hn₄ hk₄ => ?_
        have hn₄' : h₄.Ns H2.objs.size (bindB (b t) m') := hn₄
        have hk₄' : ∀ c o, c ≠ H2.objs.size → h₃.get? c = some o → h₄.get? c = some o := hk₄
        have F₄ : Fr h₀ L h₄ m := ⟨F₃.ns.at' fun o e => hk₄' _ o (Ne.symm hCL) e, fun c o e => hk₄' c o (fun q => by rw [q, hC₀] at e; cases e) (F₃.keep c o e), F₃.above⟩
        have hst₄ : St (i + 1) h₄ := W.frame _ _ _ hst₃ fun c hc o e => hk₄' c o (fun q => hCf (q ▸ hc)) e
        obtain ⟨oC, heC, hoC⟩ := ns_obj hn₄'
        have Nown : News h₀ L h₄ (PyProof.Rows.ownOf h₀ fp h₄) := news_ownOf hLf
        have hdrop : items.drop i = b :: items.drop (i + 1) := by
          have hlt' : i < items.length := hn ▸ hlt
          rw [List.drop_eq_getElem_cons hlt']
          congr 1
          exact Option.some.inj ((List.getElem?_eq_getElem hlt').symm.trans hb)
        rw [hdrop] at R'
        have N₄ : News h₀ L h₄ ((H2.objs.size, oC) :: (s₂.heap.objs.size, lst ys) :: (PyProof.Rows.ownOf h₀ fp h₄ ++ news')) := fun p hp => by
          rcases List.mem_cons.mp hp with rfl | hp
          · exact ⟨heC, hCL, hC₀⟩
          · rcases List.mem_cons.mp hp with rfl | hp
            · exact ⟨hk₄' _ _ hDC (N₃ _ (.head _)).1, (N₃ _ (.head _)).2⟩
            · rcases List.mem_append.mp hp with hp | hp
              · exact Nown p hp
              · exact ⟨hk₄' _ _ (off' p hp).2.1 (N₃ p (.tail _ hp)).1, (N₃ p (.tail _ hp)).2⟩
        have step : ∀ h₅ : Heap, (∀ b o, b ∈ fp → h₄.get? b = some o → h₅.get? b = some o) → St (i + 1) h₅ := fun h₅ hk => W.frame _ _ _ hst₄ fun b hb o e => hk b o hb e
        have keepfp : ∀ (h₅ : Heap) (nw : LedT), Fr h₀ L h₅ m → News h₀ L h₅ ((H2.objs.size, oC) :: (s₂.heap.objs.size, lst ys) :: (PyProof.Rows.ownOf h₀ fp h₄ ++ nw)) → St (i + 1) h₅ := fun h₅ nw F₅ N₅ => step h₅ fun c o hc e => by
          cases hn : h₀.get? c with
          | some o₀ =>
            have : o₀ = o := by have q := F₄.keep c o₀ hn; rw [e] at q; exact (Option.some.inj q).symm
            exact this ▸ F₅.keep c o₀ hn
          | none => exact (N₅ _ (.tail _ (.tail _ (List.mem_append_left _ (mem_ownOf hc hn e))))).1
        have hwo : OwnW (wr, fp) (PyProof.Rows.ownOf h₀ fp h₄) := ⟨fun a ha => by
          obtain ⟨o, e⟩ := hobj _ _ hst₄ a ha
          exact ⟨o, mem_ownOf (W.sub _ ha) (hwr a ha) e⟩, fun p hp => PyProof.Rows.ownOf_sub p hp⟩
        refine wpAny_mono (R' t (PyProof.Rows.ownOf h₀ fp h₄) H2.objs.size oC s₂.heap.objs.size _ h₄ _ _ hoC (has_bind hd) F₄ N₄ off' hwo) (fun ok s₅ hq => ?_) fun _ _ e => e
        cases ok with
        | true =>
          simp only [if_true] at hq ⊢
          refine wpAny_mono hq (fun y s₆ hr => ?_) fun _ _ e => e
          obtain ⟨h₅, tk₅, news₅, rfl, F₅, N₅, off₅, R₅⟩ := hr
          have zD := (N₅ (s₂.heap.objs.size, lst ys) (.tail _ (.head _))).1
          have zC := (N₅ (H2.objs.size, oC) (.head _)).1
          have hst₅ := keepfp h₅ news₅ F₅ N₅
          refine append_at (hsz := by show ys.toArray.size ≤ sizeLine; rw [List.size_toArray]; exact Nat.le_trans (Nat.le_trans hyl hi) hsz) zD fun h₆ hs₆ hD₆ => ?_
          refine ⟨n + 1 - (i + 1), by omega, h₆, tk₅, i + 1, ys ++ [y], _, news₅, rfl, hlt, rfl, by rw [List.length_append, List.length_singleton]; exact Nat.succ_le_succ hyl, W.frame _ _ _ hst₅ fun b hb o e => hs₆.extBut b o (fun q => hDf (q ▸ hb)) e, F₅.change hs₆ hDL hD₀,
            (hoC.ns zC).sameBut hs₆ (Ne.symm hDC), fun p hp => ?_, off₅, R₅⟩
          rcases List.mem_cons.mp hp with rfl | hp
          · exact ⟨hD₆.trans (congrArg some (lst_snoc ys y)), hDL, hD₀⟩
          · have z := N₅ p (.tail _ (.tail _ (List.mem_append_right _ hp)))
            exact ⟨hs₆.extBut _ _ (off₅ p hp).2.2 z.1, z.2⟩
        | false =>
          simp only [Bool.false_eq_true, if_false] at hq ⊢
          obtain ⟨h₅, tk₅, news₅, rfl, F₅, N₅, off₅, R₅⟩ := hq
          have zC := (N₅ (H2.objs.size, oC) (.head _)).1
          refine ⟨n + 1 - (i + 1), by omega, h₅, tk₅, i + 1, ys, _, news₅, rfl, hlt, rfl, Nat.le_succ_of_le hyl, keepfp h₅ news₅ F₅ N₅, F₅, hoC.ns zC, fun p hp => ?_, off₅, R₅⟩
          rcases List.mem_cons.mp hp with rfl | hp
          · exact N₅ _ (.tail _ (.head _))
          · exact N₅ p (.tail _ (.tail _ (List.mem_append_right _ hp)))
      · obtain rfl : i = n := Nat.le_antisymm hi (Nat.not_lt.mp hlt)
        have z : items.drop i = [] := List.drop_eq_nil_of_le (Nat.le_of_eq hn.symm)
        rw [z] at R'
        refine W.done _ _ _ hst' fun h₂ tk₂ hk₂ => ?_
        obtain ⟨F₂, N₂, hn₂⟩ := next h₂ hk₂
        exact hRR _ _ h₂ tk₂ _ ys news' F₂ N₂ (fun p hp => (off' p hp).2.2) (allLt_of fun p hp => Heap.lt_size (N p hp).1) hn₂ hC₀ hD₀ hCL hDL (Ne.symm hDC) (fun p hp => (off' p hp).2.1) R'
    · rcases List.mem_cons.mp hp with rfl | hp
      · exact ⟨hacc, hDL, hD₀⟩
      · exact ⟨old _ _ (N p hp).1, (N p hp).2⟩
  exact codeAny_compStart_list (loop _ rfl) (hself _ _ _ hst₁ (loop _ rfl))

def CompAt (prog : Program) (w : World) (A : Around) (h₀ : Heap) (L : Addr) (m : Str → Option Value) (env : Env) (target : PySem.Expr) (ifs : List PySem.Expr) (elt : PySem.Expr) (scope : Scope) (cl : List (Str × Addr))
    (Fin : Shared → LedT → List Value → LedT → Prop) (it : Value) (s₂ : Shared) : Prop :=
  ∃ (I : Addr) (fp wr : List Addr) (n : Nat) (P Md : Nat → Value → Heap → Prop) (St : Nat → Heap → Prop) (news : LedT) (items : List (Tok → List (Str × Value))),
    it = .ref I ∧ KTurns prog w A target I fp wr n P Md St ∧ (∀ (s : Shared) (Q : Value → Shared → Prop) (E : Value → Shared → Prop), St 0 s.heap → Q (.ref I) s → wpAny (model prog w) A (pyIter (.ref I)) Q E s) ∧
    n ≤ sizeLine ∧ n = items.length ∧ (∀ i v h C, P i v h → ∃ b t, items[i]? = some b ∧ distinct (b t) ∧ Asn prog w A target (compEnvC scope cl C env) (b t) v h) ∧
    (∀ i h, St i h → ∀ b ∈ wr, ∃ o, h.get? b = some o) ∧ St 0 s₂.heap ∧ (∀ b ∈ fp, b < s₂.heap.objs.size) ∧ Fr h₀ L s₂.heap m ∧ News h₀ L s₂.heap news ∧ L ∉ fp ∧ (∀ b ∈ wr, h₀.get? b = none) ∧ (∀ p ∈ news, p.1 ∉ wr) ∧
    CRest prog w A h₀ L m env ifs elt scope cl s₂ (wr, fp) (Fin s₂ news) items [] news
def FinC (h₀ : Heap) (L : Addr) (m : Str → Option Value) (Q : Value → Shared → Prop) (s : Shared) (news₀ : LedT) (ys : List Value) (news : LedT) : Prop :=
  ∀ D h tk, Fr h₀ L h m → News h₀ L h ((D, lst ys) :: news) → (∀ p ∈ news, p.1 ≠ D) → AllLt D news₀ → Q (.ref D) { s with heap := h, toks := tk }
def FinS (h₀ : Heap) (L : Addr) (m : Str → Option Value) (y : Str) (Q : Flow → Shared → Prop) (s : Shared) (news₀ : LedT) (ys : List Value) (news : LedT) : Prop :=
  ∀ D h tk, Fr h₀ L h (fun z => if z = y then some (.ref D) else m z) → News h₀ L h ((D, lst ys) :: news) → (∀ p ∈ news, p.1 ≠ D) → AllLt D news₀ → Q .next { s with heap := h, toks := tk }

theorem comp_eval {target elt iter : PySem.Expr} {ifs : List PySem.Expr} {scope : Scope} {cl : List (Str × Addr)} {pos : Pos} {Q : Value → Shared → Prop} (_F₀ : Fr h₀ L s.heap m)
    (hclos : closureFor scope env = pure cl) (hcell : ∀ y ∈ scope.names, y.2 ≠ .cell) (hkind : scope.kind = .function)
    (hnames : ∀ y ∈ scope.names, y.2 = .local → scope.names.lookup y.1 = some .local)
    (h : wpAny (model prog w) A (eval iter env) (fun xv s₁ => wpAny (model prog w) A (pyIter xv) (fun it s₂ => CompAt prog w A h₀ L m env target ifs elt scope cl (FinC h₀ L m Q) it s₂) E s₁) E s)
    (hs : ∀ x, foldedSetIterable iter env x = pure x := by intro _; rfl) :
    wpAny (model prog w) A (eval (.ListComp elt [⟨target, iter, ifs, 0⟩] scope pos) env) Q E s := by
  rw [eval_ListComp]
  refine wpAny_comprehension_free (use := none) rfl hs hclos hkind hnames (wpAny_mono h (fun xv s₁ h₁ => wpAny_mono h₁ (fun it s₂ h₂ => ?_) fun _ _ e => e) fun _ _ e => e)
  obtain ⟨I, fp, wr, n, P, Md, St, news, items, rfl, W, hself, hsz, hn, hP, hobj, hst, hfp, F, N, hLf, hwr, off, R⟩ := h₂
  refine cblock items W hself hsz hn hP hobj hcell hkind hst hfp F N hLf hwr off R ?_
  intro D C h tk m' ys news' F' N' o1 lt hn hC₀ hD₀ hCL hDL hCD offC fin
  refine ⟨m', hn, fun h'' hs'' => fin D h'' tk (F'.change hs'' hCL hC₀) (fun p hp => ?_) o1 lt⟩
  refine ⟨hs''.extBut _ _ ?_ (N' p hp).1, (N' p hp).2⟩
  rcases List.mem_cons.mp hp with rfl | hp
  · exact Ne.symm hCD
  · exact offC p hp

theorem comp_assign {target elt iter : PySem.Expr} {ifs : List PySem.Expr} {y : Str} {py : Pos} {scope : Scope} {cl : List (Str × Addr)} {pos spos : Pos} {Q : Flow → Shared → Prop} (_F₀ : Fr h₀ env.locals s.heap m)
    (hsw : swapsWith (.ListComp elt [⟨target, iter, ifs, 0⟩] scope pos) (some (.Name y py)) spos.line env = pure true)
    (hclos : closureFor scope env = pure cl) (hcell : ∀ z ∈ scope.names, z.2 ≠ .cell) (hkind : scope.kind = .function)
    (hnames : ∀ z ∈ scope.names, z.2 = .local → scope.names.lookup z.1 = some .local)
    (hy : env.kindOf y = some .local) (hp : (env.scope.kind == .class || (env.scope.kind == .module && env.locals != env.globals)) = false)
    (h : wpAny (model prog w) A (eval iter env) (fun xv s₁ => wpAny (model prog w) A (pyIter xv) (fun it s₂ => CompAt prog w A h₀ env.locals m env target ifs elt scope cl (FinS h₀ env.locals m y Q) it s₂) E s₁) E s)
    (hs : ∀ x, foldedSetIterable iter env x = pure x := by intro _; rfl) :
    wpAny (model prog w) A (exec (.Assign [.Name y py] (.ListComp elt [⟨target, iter, ifs, 0⟩] scope pos) spos) env) Q E s := by
  rw [exec_Assign_Name_used _ _ _ _ hsw]
  refine wpAny_bind (wpAny_standAt (wpAny_bind ?_))
  show wpAny _ A (do let _ ← comprehension (.ListComp elt [⟨target, iter, ifs, 0⟩] scope pos) scope env _ (newList []) false (eval iter env) (some (assign (.Name y py) env))) _ _ s
  refine wpAny_bind (wpAny_mono (wpAny_comprehension_free (use := some (assign (.Name y py) env)) (Q := fun _ s' => Q .next s') rfl hs hclos hkind hnames
    (wpAny_mono h (fun xv s₁ h₁ => wpAny_mono h₁ (fun it s₂ h₂ => ?_) fun _ _ e => e) fun _ _ e => e)) (fun _ s' hq => wpAny_pure (wpAny_pure hq)) fun _ _ e => e)
  obtain ⟨I, fp, wr, n, P, Md, St, news, items, rfl, W, hself, hsz, hn, hP, hobj, hst, hfp, F, N, hLf, hwr, off, R⟩ := h₂
  refine cblock items W hself hsz hn hP hobj hcell hkind hst hfp F N hLf hwr off R ?_
  intro D C h' tk m' ys news' F' N' o1 lt hn hC₀ hD₀ hCL hDL hCD offC fin
  show wpAny _ A (assign (.Name y py) env (.ref D)) _ _ _
  refine wpAny_assign_Name (wpAny_storeName_local hy F'.ns (fun h₂ hn₂ hs₂ => ?_) hp)
  have hL₀ : h₀.get? env.locals = none := Heap.get?_none_of_le F'.above
  have F₂ : Fr h₀ env.locals h₂ (fun z => if z = y then some (.ref D) else m z) := ⟨hn₂, fun b o e => hs₂.extBut b o (fun q => by rw [q, hL₀] at e; cases e) (F'.keep b o e), F'.above⟩
  refine ⟨m', hn.sameBut hs₂ hCL, fun h'' hs'' => fin D h'' _ (F₂.change hs'' hCL hC₀) (fun p hp => ?_) o1 lt⟩
  have z : h₂.get? p.1 = some p.2 := hs₂.extBut _ _ (N' p hp).2.1 (N' p hp).1
  refine ⟨hs''.extBut _ _ ?_ z, (N' p hp).2⟩
  rcases List.mem_cons.mp hp with rfl | hp
  · exact Ne.symm hCD
  · exact offC p hp

section
variable {ifs : List PySem.Expr} {elt : PySem.Expr} {scope : Scope} {cl : List (Str × Addr)} {Fin : Shared → LedT → List Value → LedT → Prop} {news : LedT}
theorem lk_rel {C : Addr} {x : Str} (hx : scope.names.lookup x = some .local) : (compEnvC scope cl C env).kindOf x = some .local := lookup_relabel_local hx
theorem kd_rel {C : Addr} (hkind : scope.kind = .function) : ((compEnvC scope cl C env).scope.kind == .class || ((compEnvC scope cl C env).scope.kind == .module && (compEnvC scope cl C env).locals != (compEnvC scope cl C env).globals)) = false := by
  simp [compEnvC, relabel, hkind]

theorem comp_tup {x : Str} {px : Pos} {ax : Addr} {vs : List Value} {k : Nat} (hh : A.handled = none) (F : Fr h₀ L s.heap m) (N : News h₀ L s.heap news) (hm : (ax, ({ cls := .type "tuple", data := .seq vs.toArray k } : Obj)) ∈ news)
    (hkind : scope.kind = .function) (hx : scope.names.lookup x = some .local) (hz : vs.length ≤ 1000)
    (rest : ∀ I : Addr, ∀ s₂ : Shared, (∃ h, s₂ = { s with heap := h }) → CRest prog w A h₀ L m env ifs elt scope cl s₂ ([I], [I, ax]) (Fin s₂ news) (vs.map fun v _ => [(x, v)]) [] news) :
    wpAny (model prog w) A (pyIter (.ref ax)) (fun it s₂ => CompAt prog w A h₀ L m env (.Name x px) ifs elt scope cl Fin it s₂) E s := by
  have hax := N _ hm
  have hl : s.heap.IsTuple ax vs.toArray := ⟨_, hax.1, rfl, _, rfl⟩
  have hlt : ax < s.heap.objs.size := Heap.lt_size hax.1
  have hne : ax ≠ s.heap.objs.size := Nat.ne_of_lt hlt
  refine wpAny_pyIter_tuple hl ?_
  refine ⟨s.heap.objs.size, _, _, vs.toArray.size, _, _, _, news, vs.map fun v _ => [(x, v)], rfl, KTurns.ofWalks (Walks.tuple hh s.heap.objs.size ax hne vs.toArray) fun i v s Q E st q => letGo_tupleiter st.1 q,
    fun s' Q E st q => wpAny_pyIter_tupleiter st.1 q, by rw [List.size_toArray, sizeLine_eq]; omega, by simp, fun i v h C hp' => ⟨fun _ => [(x, v)], 0, ?_, ⟨fun _ hq => (nomatch hq), trivial⟩, asn_name (lk_rel hx) (kd_rel hkind)⟩, fun i h st b hb => ?_, ?_, fun b hb => ?_,
    F.push _, fun p hp => ⟨Heap.get?_push_of_some _ (N p hp).1, (N p hp).2⟩, ?_, fun b hb => ?_, fun p hp hI => ?_, rest _ _ ⟨_, rfl⟩⟩
  · have hp'' : vs.toArray[i]? = some v := hp'
    have : vs[i]? = some v := by simpa using hp''
    simp [this]
  · rw [List.mem_singleton.mp hb]
    obtain ⟨o, e, _⟩ := st.1
    exact ⟨o, e⟩
  · exact ⟨⟨_, Heap.get?_push_size _ rfl, rfl, rfl⟩, hl.at fun o e => Heap.get?_push_of_some _ e⟩
  · show b < (s.heap.push _).objs.size
    rw [Heap.size_push]
    rcases List.mem_cons.mp hb with rfl | hb
    · exact Nat.lt_succ_self _
    · rw [List.mem_singleton.mp hb]; exact Nat.lt_succ_of_lt hlt
  · intro hI
    rcases List.mem_cons.mp hI with e | hI
    · exact absurd F.ns.lt (e ▸ Nat.lt_irrefl _)
    · exact hax.2.1 (List.mem_singleton.mp hI).symm
  · rw [List.mem_singleton.mp hb]; exact next_is_new F
  · exact absurd (Heap.lt_size (N p hp).1) ((List.mem_singleton.mp hI) ▸ Nat.lt_irrefl _)

theorem comp_list {x : Str} {px : Pos} {ax : Addr} {vs : List Value} {k : Nat} (hh : A.handled = none) (F : Fr h₀ L s.heap m) (N : News h₀ L s.heap news) (hm : (ax, ({ cls := .type "list", data := .seq vs.toArray k } : Obj)) ∈ news)
    (hkind : scope.kind = .function) (hx : scope.names.lookup x = some .local) (hz : vs.length ≤ 1000)
    (rest : ∀ I : Addr, ∀ s₂ : Shared, (∃ h, s₂ = { s with heap := h }) → CRest prog w A h₀ L m env ifs elt scope cl s₂ ([I], [I, ax]) (Fin s₂ news) (vs.map fun v _ => [(x, v)]) [] news) :
    wpAny (model prog w) A (pyIter (.ref ax)) (fun it s₂ => CompAt prog w A h₀ L m env (.Name x px) ifs elt scope cl Fin it s₂) E s := by
  have hax := N _ hm
  have hl : s.heap.IsList ax vs.toArray := ⟨_, hax.1, rfl, _, rfl⟩
  have hlt : ax < s.heap.objs.size := Heap.lt_size hax.1
  have hne : ax ≠ s.heap.objs.size := Nat.ne_of_lt hlt
  have W0 := Walks.list (prog := prog) (w := w) hh s.heap.objs.size ax hne vs.toArray
  refine wpAny_pyIter_list hl ?_
  refine ⟨s.heap.objs.size, _, _, vs.toArray.size, _, _, _, news, vs.map fun v _ => [(x, v)], rfl, KTurns.ofWalks (Walks.list hh s.heap.objs.size ax hne vs.toArray) fun i v s Q E st q => letGo_listiter st.1 q,
    fun s' Q E st q => W0.self 0 s' Q E st q, by rw [List.size_toArray, sizeLine_eq]; omega, by simp, fun i v h C hp' => ⟨fun _ => [(x, v)], 0, ?_, ⟨fun _ hq => (nomatch hq), trivial⟩, asn_name (lk_rel hx) (kd_rel hkind)⟩, fun i h st b hb => ?_, ?_, fun b hb => ?_,
    F.push _, fun p hp => ⟨Heap.get?_push_of_some _ (N p hp).1, (N p hp).2⟩, ?_, fun b hb => ?_, fun p hp hI => ?_, rest _ _ ⟨_, rfl⟩⟩
  · have hp'' : vs.toArray[i]? = some v := hp'
    have : vs[i]? = some v := by simpa using hp''
    simp [this]
  · rw [List.mem_singleton.mp hb]
    obtain ⟨o, e, _⟩ := st.1
    exact ⟨o, e⟩
  · exact ⟨⟨_, Heap.get?_push_size _ rfl, rfl, rfl⟩, hl.at fun o e => Heap.get?_push_of_some _ e⟩
  · show b < (s.heap.push _).objs.size
    rw [Heap.size_push]
    rcases List.mem_cons.mp hb with rfl | hb
    · exact Nat.lt_succ_self _
    · rw [List.mem_singleton.mp hb]; exact Nat.lt_succ_of_lt hlt
  · intro hI
    rcases List.mem_cons.mp hI with e | hI
    · exact absurd F.ns.lt (e ▸ Nat.lt_irrefl _)
    · exact hax.2.1 (List.mem_singleton.mp hI).symm
  · rw [List.mem_singleton.mp hb]; exact next_is_new F
  · exact absurd (Heap.lt_size (N p hp).1) ((List.mem_singleton.mp hI) ▸ Nat.lt_irrefl _)

theorem comp_range {x : Str} {px : Pos} {r : Addr} {a₀ b₀ : Int} {t₀ u₀ v₀ : Tok} {n : Nat} (hh : A.handled = none) (hr : IsRange s.heap r a₀ b₀ 1 t₀ u₀ v₀) (hsmall : Builtin.Range.small a₀ b₀ 1 = true)
    (hsz : Builtin.Range.rangeSize a₀ b₀ 1 = (n : Int)) (F : Fr h₀ L s.heap m) (N : News h₀ L s.heap news)
    (hkind : scope.kind = .function) (hx : scope.names.lookup x = some .local) (hz : n ≤ 1000)
    (rest : ∀ I : Addr, ∀ s₂ : Shared, (∃ h, s₂ = { s with heap := h }) → CRest prog w A h₀ L m env ifs elt scope cl s₂ ([I], [I]) (Fin s₂ news) ((List.range n).map fun (i : Nat) t => [(x, .int (a₀ + (i : Int)) t)]) [] news) :
    wpAny (model prog w) A (pyIter (.ref r)) (fun it s₂ => CompAt prog w A h₀ L m env (.Name x px) ifs elt scope cl Fin it s₂) E s := by
  refine wpAny_pyIter_range hr hsmall ?_
  have W : Walks prog w A s.heap.objs.size [s.heap.objs.size] [s.heap.objs.size] n (fun i v => i < n ∧ ∃ t, v = .int (a₀ + i * 1) t)
      (fun i h => IsRangeIter h s.heap.objs.size (a₀ + (i : Nat) * 1) ((n : Int) - (i : Nat)) 1) := (Walks.range hh _ a₀ 1 n).bound
  refine ⟨s.heap.objs.size, _, _, n, _, _, _, news, (List.range n).map fun (i : Nat) t => [(x, .int (a₀ + (i : Int)) t)], rfl, KTurns.ofWalks W fun i v s Q E st q => ?_,
    fun s' Q E st q => W.self 0 s' Q E st q, by rw [sizeLine_eq]; omega, by simp, fun i v h C hp' => ?_, fun i h st b hb => ?_, ?_, fun b hb => ?_,
    F.push _, fun p hp => ⟨Heap.get?_push_of_some _ (N p hp).1, (N p hp).2⟩, ?_, fun b hb => ?_, fun p hp hI => ?_, rest _ _ ⟨_, rfl⟩⟩
  · first
      | exact wpAny_of_eq rfl (wpAny_pure q)
      | (show wpAny _ _ (pure ()) _ _ _; exact wpAny_pure q)
  · obtain ⟨hi, t, rfl⟩ := hp'
    exact ⟨fun t => [(x, .int (a₀ + (i : Int)) t)], t, by simp [hi], ⟨fun _ hq => (nomatch hq), trivial⟩, by rw [Int.mul_one]; exact asn_name (lk_rel hx) (kd_rel hkind)⟩
  · rw [List.mem_singleton.mp hb]
    exact ⟨_, st⟩
  · show IsRangeIter _ _ _ _ _
    rw [hsz]
    simpa using Heap.get?_push_size _ rfl
  · show b < (s.heap.push _).objs.size
    rw [Heap.size_push, List.mem_singleton.mp hb]
    exact Nat.lt_succ_self _
  · intro hI
    exact absurd F.ns.lt ((List.mem_singleton.mp hI) ▸ Nat.lt_irrefl _)
  · rw [List.mem_singleton.mp hb]; exact next_is_new F
  · exact absurd (Heap.lt_size (N p hp).1) ((List.mem_singleton.mp hI) ▸ Nat.lt_irrefl _)

theorem comp_zip3 {x y z : Str} {px py pz tp : Pos} {kk : Nat} {l1 l2 l3 : Addr} {us vs ws : List Value} {k1 k2 k3 : Nat} (hh : A.handled = none) (F : Fr h₀ L s.heap m) (N : News h₀ L s.heap news)
    (hm1 : (l1, ({ cls := .type "tuple", data := .seq us.toArray k1 } : Obj)) ∈ news) (hm2 : (l2, ({ cls := .type "tuple", data := .seq vs.toArray k2 } : Obj)) ∈ news) (hm3 : (l3, ({ cls := .type "tuple", data := .seq ws.toArray k3 } : Obj)) ∈ news)
    (e2 : vs.length = us.length) (e3 : ws.length = us.length) (hz : us.length ≤ 1000)
    (hkind : scope.kind = .function) (ha : scope.names.lookup x = some .local) (hb : scope.names.lookup y = some .local) (hc : scope.names.lookup z = some .local) (hxy : x ≠ y) (hxz : x ≠ z) (hyz : y ≠ z)
    (rest : ∀ I : Addr, ∀ s₂ : Shared, (∃ h, s₂ = { s with heap := h }) → CRest prog w A h₀ L m env ifs elt scope cl s₂ ([I + 5, I + 4, I, I + 1, I + 2], [I + 5, I + 3, I + 4, I, I + 1, I + 2, l1, l2, l3]) (Fin s₂ news) (trip3 x y z us vs ws) [] news) :
    wpAny (model prog w) A (call (.type "zip") [.ref l1, .ref l2, .ref l3]) (fun xv s₁ => wpAny (model prog w) A (pyIter xv) (fun it s₂ => CompAt prog w A h₀ L m env (.Tuple [.Name x px, .Name y py, .Name z pz] kk tp) ifs elt scope cl Fin it s₂) E s₁) E s := by
  have a1 := N _ hm1
  have a2 := N _ hm2
  have a3 := N _ hm3
  have t1 : s.heap.IsTuple l1 us.toArray := ⟨_, a1.1, rfl, _, rfl⟩
  have t2 : s.heap.IsTuple l2 vs.toArray := ⟨_, a2.1, rfl, _, rfl⟩
  have t3 : s.heap.IsTuple l3 ws.toArray := ⟨_, a3.1, rfl, _, rfl⟩
  have q1 : l1 < s.heap.objs.size := Heap.lt_size a1.1
  have q2 : l2 < s.heap.objs.size := Heap.lt_size a2.1
  have q3 : l3 < s.heap.objs.size := Heap.lt_size a3.1
  have hLs : L < s.heap.objs.size := F.ns.lt
  refine call_zip3 t1 t2 t3 fun h' Z k => ?_
  refine wpAny_pyIter_zip Z.z ?_
  have F' : Fr h₀ L h' m := F.keeps k
  have zlt : s.heap.objs.size + 5 < h'.objs.size := Heap.lt_size Z.z
  refine ⟨s.heap.objs.size + 5, _, _, us.toArray.size, _, _, _, news, trip3 x y z us vs ws, rfl, turns_zip3 hh q1 q2 q3 us.toArray vs.toArray ws.toArray (by simpa using e2) (by simpa using e3),
    fun s' Q E st q => wpAny_pyIter_zip st.z q, by rw [List.size_toArray, sizeLine_eq]; omega, by rw [trip3_length e2 e3]; simp, fun i v h C hp' => ?_, fun i h st b hb => ?_, Z, fun b hb => ?_,
    F', N.grown k, ?_, fun b hb => ?_, fun p hp hI => ?_, rest _ _ ⟨_, rfl⟩⟩
  · obtain ⟨T, a, b, c, rfl, h1, h2, h3, hT⟩ := hp'
    refine ⟨_, 0, trip3_get (by simpa using h1) (by simpa using h2) (by simpa using h3), ?_, asn_three hh (lk_rel ha) (lk_rel hb) (lk_rel hc) (kd_rel hkind) hT⟩
    refine ⟨fun q hq => ?_, fun q hq => ?_, fun q hq => (nomatch hq), trivial⟩
    · simp only [List.mem_cons, List.not_mem_nil, or_false] at hq
      rcases hq with rfl | rfl
      · exact hyz
      · exact hxz
    · simp only [List.mem_cons, List.not_mem_nil, or_false] at hq
      subst hq
      exact hxy
  · simp only [List.mem_cons, List.not_mem_nil, or_false] at hb
    obtain ⟨hz0, hTI, ⟨a, b, c, hTO⟩, ⟨o1, h1, _⟩, ⟨o2, h2, _⟩, ⟨o3, h3, _⟩, _⟩ := st
    rcases hb with rfl | rfl | rfl | rfl | rfl
    · exact ⟨_, hz0⟩
    · exact ⟨_, hTO⟩
    · exact ⟨_, h1⟩
    · exact ⟨_, h2⟩
    · exact ⟨_, h3⟩
  · simp only [List.mem_cons, List.not_mem_nil, or_false] at hb
    have up : ∀ j, j ≤ 5 → s.heap.objs.size + j < h'.objs.size := fun j hj => Nat.lt_of_le_of_lt (Nat.add_le_add_left hj _) zlt
    have lo : ∀ {j : Nat}, j < s.heap.objs.size → j < h'.objs.size := fun hj => Nat.lt_trans hj (up 0 (by omega))
    rcases hb with rfl | rfl | rfl | rfl | rfl | rfl | rfl | rfl | rfl
    · exact up 5 (by omega)
    · exact up 3 (by omega)
    · exact up 4 (by omega)
    · exact up 0 (by omega)
    · exact up 1 (by omega)
    · exact up 2 (by omega)
    · exact lo q1
    · exact lo q2
    · exact lo q3
  · intro hI
    have n1 := a1.2.1
    have n2 := a2.2.1
    have n3 := a3.2.1
    simp only [List.mem_cons, List.not_mem_nil, or_false] at hI
    rcases hI with e | e | e | e | e | e | e | e | e
    · exact ktu_ne 5 hLs e
    · exact ktu_ne 3 hLs e
    · exact ktu_ne 4 hLs e
    · exact Nat.ne_of_lt hLs e
    · exact ktu_ne 1 hLs e
    · exact ktu_ne 2 hLs e
    · exact n1 e.symm
    · exact n2 e.symm
    · exact n3 e.symm
  · simp only [List.mem_cons, List.not_mem_nil, or_false] at hb
    rcases hb with rfl | rfl | rfl | rfl | rfl
    · exact ktu_new F (Nat.le_add_right _ _)
    · exact ktu_new F (Nat.le_add_right _ _)
    · exact ktu_new F (Nat.le_refl _)
    · exact ktu_new F (Nat.le_add_right _ _)
    · exact ktu_new F (Nat.le_add_right _ _)
  · have hlp := Heap.lt_size (N p hp).1
    simp only [List.mem_cons, List.not_mem_nil, or_false] at hI
    rcases hI with e | e | e | e | e
    · exact ktu_ne 5 hlp e
    · exact ktu_ne 4 hlp e
    · exact Nat.ne_of_lt hlp e
    · exact ktu_ne 1 hlp e
    · exact ktu_ne 2 hlp e
end
end
end
section
open PyProof.Rows.LCg (NsObj lst)
/-- what a comprehension's turn leaves, its own objects left aside -/
def CS (C D : Addr × Obj) (own all n : Led) : Prop := ∀ p ∈ n, p ∈ all
theorem CS.base {C D : Addr × Obj} {own n : Led} : CS C D own (C :: D :: (own ++ n)) n := fun _ h => .tail _ (.tail _ (List.mem_append.mpr (.inr h)))
theorem CS.skip {C D e : Addr × Obj} {own all n : Led} (h : CS C D own all n) : CS C D own (e :: all) (e :: n) := fun p hp => by
  rcases List.mem_cons.mp hp with rfl | hp
  · exact .head _
  · exact .tail _ (h p hp)
section
variable {h₀ : Heap} {L : Addr} {m : Str → Option Value} {s₁ : Shared} {wr : Wr} {own news' all big tl r : Led} {C D E : Addr} {oC oD o : Obj} {ys : List Value} {rest : Value → Led → Prop} {y : Value} {h' : Heap} {tk : Nat}
theorem cend (F : Fr h₀ L h' m) (N : News h₀ L h' all) (h1 : (C, oC) ∈ all) (h2 : (D, lst ys) ∈ all) (h3 : ∀ p ∈ own, p ∈ all) (h4 : CS (C, oC) (D, lst ys) own all news') (off : COff wr C D news') (r : rest y news') :
    CEnd h₀ L m s₁ wr own C oC D ys rest y { s₁ with heap := h', toks := tk } :=
  CEnd.intro F N (List.forall_mem_cons.mpr ⟨h1, List.forall_mem_cons.mpr ⟨h2, List.forall_mem_append.mpr ⟨h3, h4⟩⟩⟩) off r
theorem coff_nil : COff wr C D [] := fun _ h => nomatch h
theorem coff_e {e : Addr × Obj} (off : COff wr C D big) (h : e ∈ big) (k : COff wr C D r) : COff wr C D (e :: r) := fun p hp => by
  rcases List.mem_cons.mp hp with rfl | hp
  · exact off _ h
  · exact k p hp
theorem coff_sub (off : COff wr C D big) (h : ∀ p ∈ r, p ∈ big) : COff wr C D r := fun p hp => off p (h p hp)
theorem coff_app (h : COff wr C D r) (k : COff wr C D tl) : COff wr C D (r ++ tl) := fun p hp => (List.mem_append.mp hp).elim (h p) (k p)
theorem coff_ord (h : Ord big tl) (h1 : (C, oC) ∈ big) (h2 : (D, oD) ∈ big) (h3 : ∀ p ∈ own, p ∈ big) (h4 : OwnW wr own) : COff wr C D tl := fun p hp =>
  ⟨fun hw => by obtain ⟨o, e⟩ := h4.1 _ hw; exact Nat.lt_irrefl _ (h _ (h3 _ e) p hp), Nat.ne_of_gt (h _ h1 p hp), Nat.ne_of_gt (h _ h2 p hp)⟩
theorem coff_cons (h : AllLt E big) (h1 : (C, oC) ∈ big) (h2 : (D, oD) ∈ big) (h3 : ∀ p ∈ own, p ∈ big) (h4 : OwnW wr own) (k : COff wr C D r) : COff wr C D ((E, o) :: r) := fun p hp => by
  rcases List.mem_cons.mp hp with rfl | hp
  · exact ⟨fun hw => by obtain ⟨o, e⟩ := h4.1 _ hw; exact Nat.lt_irrefl _ (ktn_ltOf h _ (h3 _ e)), Nat.ne_of_gt (ktn_ltOf h _ h1), Nat.ne_of_gt (ktn_ltOf h _ h2)⟩
  · exact k p hp
end
end
section
theorem gcd_turn {f s : Int} (h : 0 < s) : Int.gcd s (Int.fmod f s) = Int.gcd f s := by
  rw [Int.fmod_eq_emod_of_nonneg _ (Int.le_of_lt h), Int.gcd_comm]
  have e : f = f % s + s * (f / s) := (Int.emod_add_mul_ediv f s).symm
  have : Int.gcd (f % s + s * (f / s)) s = Int.gcd (f % s) s := Int.gcd_add_mul_left_left _ _ _
  rw [← e] at this
  exact this.symm
theorem gcd_state {f s f0 s0 : Int} (h : 0 < s) (e : Int.gcd f s = Int.gcd f0 s0) : 0 ≤ Int.fmod f s ∧ 0 ≤ s ∧ Int.gcd s (Int.fmod f s) = Int.gcd f0 s0 :=
  ⟨Int.fmod_nonneg_of_pos _ h, Int.le_of_lt h, (gcd_turn h).trans e⟩
theorem gcd_less {f s : Int} (h : 0 < s) : (Int.fmod f s).toNat < s.toNat := by
  have h1 := Int.fmod_nonneg_of_pos f h
  have h2 := Int.fmod_lt_of_pos f h
  omega
theorem gcd_end {f s f0 s0 : Int} (h : ¬ 0 < s) (h1 : 0 ≤ s) (h2 : 0 ≤ f) (e : Int.gcd f s = Int.gcd (if f0 < 0 then -f0 else f0) s0) : f = (Int.gcd f0 s0 : Int) := by
  have hs : s = 0 := by omega
  subst hs
  have : Int.gcd (if f0 < 0 then -f0 else f0) s0 = Int.gcd f0 s0 := by
    split
    · rw [Int.neg_gcd]
    · rfl
  rw [this] at e
  rw [← e, Int.gcd_zero]
  omega
set_option maxRecDepth 100000 in
set_option maxHeartbeats 8000000 in
theorem ct_cd {w : World} {mean : ExcName → Option Value} {mg mb : Str → Option Value} {one other : Int} {t1 t2 : Tok} (hn : 0 ≤ other) :
    Gives w mean mg mb 2 72 [] [] [.int one t1, .int other t2] (fun _ r => ∃ t, r = .int (Int.gcd one other : Int) t) := by
  unfold Gives
  k_fill
  intro dp un gd cn cs a ccd cl outer A₀ base h₀ L m s nw Q E B F X N T hk hn hd hu hret
  refine wpAny_call ?_
  k_dflt ktr_enter
  k_with "exec While Compare cons nil" => k_while_given ["first!", "second!"] (fun f0 s0 _ f s => 0 ≤ s ∧ 0 ≤ f ∧ Int.gcd f s = Int.gcd f0 s0) (fun _ _ _ _ s => s.toNat) "first" "second"
  k_with "state" => first | exact gcd_state (by assumption) (by assumption) | exact ⟨by assumption, by (split <;> omega), rfl⟩
  k_with "measure" => exact gcd_less (by assumption)
  k_steps
  all_goals exact gend0 hret (by assumption) (by assumption) (by kcj_all) ⟨_, congrArg (fun z => Value.int z _) (gcd_end (by assumption) (by assumption) (by assumption) (by assumption))⟩
end
local macro_rules | `(tactic| walk_at $s:str) => `(tactic| k_extra $s)
local macro_rules | `(tactic| kd_subs) => `(tactic| k_extra "kd_subs")
local macro_rules | `(tactic| ktn_lt) => `(tactic| k_extra "ktn_lt")
local macro_rules | `(tactic| ktn_ord) => `(tactic| k_extra "ktn_ord")
local macro_rules | `(tactic| ktr_rel) => `(tactic| k_extra "ktr_rel")
local macro_rules | `(tactic| ktr_enter) => `(tactic| k_extra "ktr_enter")
local macro_rules | `(tactic| k_all) => `(tactic| k_extra "k_all")
local macro_rules | `(tactic| k_upd) => `(tactic| k_extra "k_upd")
local macro_rules | `(tactic| k_updF) => `(tactic| k_extra "k_updF")
local macro_rules | `(tactic| k_mem) => `(tactic| k_extra "k_mem")
local macro_rules | `(tactic| mul_fits) => `(tactic| k_extra "mul_fits")
section
theorem gcd_ne {a b : Int} (h : 0 < b) : ((Int.gcd a b : Nat) : Int) ≠ 0 := by
  have := Int.gcd_pos_of_ne_zero_right a (Int.ne_of_gt h)
  omega
theorem gcd_log {a b : Int} (h : 0 < b) (hb : Bits 8000 b) : ((Int.gcd a b : Nat) : Int).natAbs.log2 < 9000 := by
  have h1 := gcd_ne (a := a) h
  have h2 := Int.gcd_le_natAbs_right a (Int.ne_of_gt h)
  have h3 : ((Int.gcd a b : Nat) : Int).natAbs ≠ 0 := by omega
  have h4 : ((Int.gcd a b : Nat) : Int).natAbs < 2 ^ 8000 := Nat.lt_of_le_of_lt (by omega) hb.lt
  have := (Nat.log2_lt h3).mpr h4
  omega
theorem Bits.neg {n : Nat} {x : Int} (h : Bits n x) : Bits n (-x) := by
  unfold Bits at *
  rw [Int.natAbs_neg]
  exact h
theorem use_cd {w : World} {mean : ExcName → Option Value} {mg mb : Str → Option Value} {nw : Led} {one other : Int} {t1 t2 : Tok}
    {dp un : Nat} {gd : Option (List Code)} {cn : Str} {cs : Scope} {a : Addr} {ccd : Value} {cl : List (Str × Addr)} {outer : List Env} {A₀ : Around} {base h₀ : Heap} {L : Addr} {m : Str → Option Value} {s : Shared}
    {Q E : Value → Shared → Prop} (B : Below A₀ base outer h₀) (F : Fr h₀ L s.heap m) (X : (hd.heap_39 w.params).In h₀) (N : News h₀ L s.heap nw) (T : Top hd.view_39 (looseW hd.view_39 [Str.ofString "fraction", Str.ofString "direction"]) mean mg mb h₀) (hk : cs.kind = .function)
    (hd : dp + 2 < recursionLimit) (hu : un + 8 * 2 < cLine) (hp : 0 < other) (hb : Bits 8000 other)
    (ret : ((Int.gcd one other : Nat) : Int) ≠ 0 → ((Int.gcd one other : Nat) : Int).natAbs.log2 < 9000 → ∀ t h' tk', Fr h₀ L h' m → News h₀ L h' nw → Q (.int (Int.gcd one other : Int) t) { s with heap := h', toks := tk' }) :
    wpAny (model PySem.Challenge.rw_on0222_01.row.prog w) (ktrTop dp un gd cn cs L a ccd cl outer) (call (.ref 72) [.int one t1, .int other t2]) Q E s :=
  Gives.useI B F X N T hk (ct_cd (Int.le_of_lt hp)) (fun _ h => nomatch h) hd hu (ret (gcd_ne hp) (gcd_log hp hb))

theorem divInt_num {a b : Int} (h : 0 < b) : Int.fdiv a (Int.gcd a b : Int) = (Rat.divInt a b).num := by
  rw [Rat.num_divInt, Int.sign_eq_one_of_pos h, Int.one_mul, Int.gcd_comm, Int.fdiv_eq_ediv_of_nonneg _ (by omega)]
theorem divInt_den {a b : Int} (h : 0 < b) : Int.fdiv b (Int.gcd a b : Int) = ((Rat.divInt a b).den : Int) := by
  rw [Rat.den_divInt, if_neg (Int.ne_of_gt h), Int.gcd_comm, Int.fdiv_eq_ediv_of_nonneg _ (by omega), Int.natCast_ediv]
  congr 1
  omega
theorem divInt_neg2 (a b : Int) : Rat.divInt (-a) (-b) = Rat.divInt a b := by
  rw [Rat.neg_divInt_neg]

theorem qd_mk {l : Led} {D : Addr} {x y : Int} {t1 t2 : Tok} {n : Nat} {q : Rat} (h : (D, ({ cls := .type "tuple", data := .seq #[.int x t1, .int y t2] n } : Obj)) ∈ l) (hx : x = q.num) (hy : y = q.den) : DatIn l (.ref D) (qd q) := by
  subst hx; subst hy
  exact DatIn.tuple h (.cons (.int _ _) (.cons (.int _ _) .nil))
theorem qd_frac {l : Led} {D : Addr} {a b : Int} {t1 t2 : Tok} {n : Nat} (hb : 0 < b) (h : (D, ({ cls := .type "tuple", data := .seq #[.int (Int.fdiv a (Int.gcd a b : Int)) t1, .int (Int.fdiv b (Int.gcd a b : Int)) t2] n } : Obj)) ∈ l) : DatIn l (.ref D) (qd (Rat.divInt a b)) :=
  qd_mk h (divInt_num hb) (divInt_den hb)
theorem qd_fracN {l : Led} {D : Addr} {a b : Int} {t1 t2 : Tok} {n : Nat} (hb : b < 0) (h : (D, ({ cls := .type "tuple", data := .seq #[.int (Int.fdiv (-a) (Int.gcd (-a) (-b) : Int)) t1, .int (Int.fdiv (-b) (Int.gcd (-a) (-b) : Int)) t2] n } : Obj)) ∈ l) : DatIn l (.ref D) (qd (Rat.divInt a b)) := by
  rw [← divInt_neg2]
  exact qd_frac (by omega) h
theorem ord_one {news : Led} {D : Addr} {o : Obj} (h : AllLt D news) : ∀ q ∈ news, ∀ p ∈ [(D, o)], q.1 < p.1 := ktn_ord1 h

theorem reg1 : True := by
  k_with "kcj_q" => first
    | exact List.mem_cons_self
    | (refine List.mem_cons_of_mem _ ?_; k_extra "kcj_q")
    | (refine List.mem_append.mpr (Or.inr ?_); k_extra "kcj_q")
    | (refine List.mem_append.mpr (Or.inl ?_); k_extra "kcj_q")
    | assumption
    | exact sub_use (by assumption) (by assumption)
  k_with "kd_suf" => first
    | with_reducible exact fun _ h => h
    | (refine sub_cons ?_; k_extra "kd_suf")
    | (refine sub_appR ?_; k_extra "kd_suf")
  k_with "kd_subs" => first
    | k_extra "kd_suf"
    | exact List.forall_mem_nil _
    | assumption
    | (refine List.forall_mem_cons.mpr ⟨?_, ?_⟩; (focus k_extra "kcj_q"); kd_subs)
    | (refine List.forall_mem_append.mpr ⟨?_, ?_⟩; (focus kd_subs); kd_subs)
    | (refine sub_cons ?_; kd_subs)
    | (refine sub_appR ?_; kd_subs)
    | (refine sub_appL ?_; kd_subs)
  k_with "ktn_lt" => first | assumption | exact allLt_of (by assumption) | exact alt1 (by assumption) | exact alt2 (by assumption) | exact alt3 (by assumption) | exact alt4 (by assumption) | exact alt5 (by assumption) | exact alt6 (by assumption)
  k_with "ktn_ord" => first
    | exact Ord.nil
    | assumption
    | (refine Ord.app ?_ ?_ <;> ktn_ord)
    | (refine Ord.lt (by ktn_lt) ?_ ?_; (focus kcj_in); ktn_ord)
    | (refine Ord.le (by ktn_lt) ?_ (by omega) ?_; (focus kcj_in); ktn_ord)
    | (refine Ord.sub (by assumption) ?_; kcj_in)
  k_with "ktr_rel" => first | assumption | (refine DatIn.mono ?_ (by assumption); kd_subs)
  k_with "ktr_enter" => first
    | (refine' code_def (by k_asm) (by k_asm) (by k_asm) (by k_asm) (by k_asm) rfl rfl (by first | assumption | exact rfl) (by k_is) (by k_is) (by k_extra "my room") (by first | exact BindsTo.of_eq rfl | exact binds_K (by k_in) rfl (by k_is) rfl rfl rfl | fail "no rule for these arguments") (locs rfl) ?_ rfl rfl rfl (by decide); k_whole; intro g' L' h' FG' F' N' B' X' T'; (try dsimp only); (try k_fold))
    | (refine' code_defC (by k_asm) (by k_asm) (by k_asm) (by k_asm) (by k_asm) rfl rfl (by first | assumption | exact rfl) (by k_is) (by k_is) (by k_extra "my room") (by first | exact BindsTo.of_eq rfl | exact binds_K (by k_in) rfl (by k_is) rfl rfl rfl | fail "no rule for these arguments") rfl (by decide +kernel) ?_ rfl rfl rfl; k_whole; intro g' L' h' tk' cells' FG' F' N' Y' B' X' T' l1; (try k_lt l1); k_cells Y'; (try simp only [List.cons_append, List.nil_append] at N'); (try dsimp only); (try k_fold))
  k_with "my gend" => (refine' gend (by assumption) (by assumption) (by assumption) (by repeat' (first | exact Split.base0 | refine' Split.skip ?_ | refine' Split.appO (by assumption) ?_ | refine' Split.own ?_)) (by ktn_ord) ?_)
  k_with "my end0" => (refine' gend0 (by assumption) (by assumption) (by assumption) (by kd_subs) ?_; (try unfold Says))
  k_with "my dats" => first | exact DatAll.nil | assumption | (refine DatAll.mono ?_ (by assumption); kd_subs) | (refine DatAll.cons ?_ ?_; (focus k_extra "my dat"); k_extra "my dats")
  k_with "my dat" => first
    | exact DatIn.int _ _
    | assumption
    | (refine DatIn.mono ?_ (by assumption); kd_subs)
    | exact DatIn.tuple (by k_extra "kcj_q") (by k_extra "my dats")
    | exact DatIn.list (by k_extra "kcj_q") (by k_extra "my dats")
  k_with "my rel" => (refine DatIn.mono ?_ (by assumption); kd_subs)
  k_with "my room" => first | exact room1 (by assumption) (by exact rfl) | exact room0 (by assumption) (by exact rfl) | ktr_room
  k_with "my units" => first | exact units1 (by assumption) (by exact rfl) | exact units0 (by assumption) (by exact rfl) | ktr_units
  k_with "my ne" => first | exact ne_gtR (by assumption) (by k_extra "kcj_q") | exact ne_ltR (by assumption) (by k_extra "kcj_q") | k_ne
  k_with "newTuple" => (k_here; k_dflt (refine' kup_newTuple (by k_asm) (by k_asm) ?_ (by kmk_size)); intro D' h' F' N' l1; (try k_sweep))
  k_with "newList" => (k_here; k_dflt (refine' newList_K (by k_asm) (by k_asm) ?_ (by size_fits)); intro l' h' F' N' l1; (try k_sweep))
  k_with "my evv" => first
    | ((with_reducible show Ev _ _ _ _ _ (PySem.Expr.Name _ _) _); exact ev_name (by k_asm) (by exact rfl) (by exact rfl) (by exact rfl) (by decide))
    | ((with_reducible show Ev _ _ _ _ _ (PySem.Expr.Subscript _ (PySem.Expr.Constant _ _ _) _) _); exact ev_item (by k_asm) (by k_extra "my evv") (by k_extra "kcj_q") (by decide) (by exact rfl) (by exact rfl))
  k_with "my ev" => first
    | ((with_reducible show Ev _ _ _ _ _ (PySem.Expr.Constant _ _ _) _); exact ev_int)
    | ((with_reducible show Ev _ _ _ _ _ (PySem.Expr.Name _ _) _); exact ev_nameI (by k_asm) (by exact rfl) (by exact rfl) (by exact rfl) (by decide))
    | ((with_reducible show Ev _ _ _ _ _ (PySem.Expr.Subscript _ (PySem.Expr.Constant _ _ _) _) _); exact ev_itemI (by k_asm) (by k_extra "my evv") (by k_extra "kcj_q") (by decide) (by exact rfl) (by exact rfl))
    | ((with_reducible show Ev _ _ _ _ _ (PySem.Expr.BinOp _ PySem.Operator.Mult _ _) _); exact ev_mul (by k_extra "my ev") (by k_extra "my ev") (by mul_fits))
    | ((with_reducible show Ev _ _ _ _ _ (PySem.Expr.BinOp _ PySem.Operator.Add _ _) _); exact ev_add (by k_extra "my ev") (by k_extra "my ev"))
    | ((with_reducible show Ev _ _ _ _ _ (PySem.Expr.BinOp _ PySem.Operator.Sub _ _) _); exact ev_sub (by k_extra "my ev") (by k_extra "my ev"))
    | ((with_reducible show Ev _ _ _ _ _ (PySem.Expr.UnaryOp PySem.UnaryOp.USub _ _) _); exact ev_neg (by k_extra "my ev"))
  k_with "eval BinOp" => (k_here; k_dflt (refine' ev_runI (by k_extra "my ev") ?_); intro t' tk'; (try dsimp only))
  k_with "eval UnaryOp" => (k_here; (with_reducible show wpAny _ _ (eval (PySem.Expr.UnaryOp _ (PySem.Expr.Subscript _ _ _) _) _) _ _ _); k_dflt (refine' ev_runI (by k_extra "my ev") ?_); intro t' tk'; (try dsimp only))
  k_with "eval Subscript" => (k_here; k_dflt (refine' ev_runV (by k_extra "my evv") ?_); intro tk'; (try dsimp only))
  k_with "my bit" => first | assumption | exact Bd.nu (by assumption) | exact Bd.de (by assumption) | (k_dflt (first | exact bp_nx (by assumption) | exact bp_dx (by assumption) | exact bp_ny (by assumption) | exact bp_dy (by assumption)))
  k_with "my lit" => first
    | ((with_reducible show LitD (PySem.Expr.Constant (PySem.Const.int _) _ _) _); exact lit_int)
    | ((with_reducible show LitD (PySem.Expr.Constant (PySem.Const.str _) _ _) _); exact lit_str)
    | ((with_reducible show LitD (PySem.Expr.UnaryOp PySem.UnaryOp.USub (PySem.Expr.Constant (PySem.Const.int _) _ _) _) _); exact lit_neg)
    | ((with_reducible show LitD (PySem.Expr.Tuple _ _ _) _); exact lit_tuple (by k_extra "my lits") (by exact Nat.le_of_ble_eq_true rfl))
    | ((with_reducible show LitD (PySem.Expr.List _ _) _); exact lit_list (by k_extra "my lits") (by exact Nat.le_of_ble_eq_true rfl))
  k_with "my lits" => first
    | ((with_reducible show LitA [] _); exact litA_nil)
    | ((with_reducible show LitA (_ :: _) _); exact litA_cons (by k_extra "my lit") (by k_extra "my lits"))
  k_with "my dvs" => first
    | ((with_reducible show DvA _ _ _ _ _ _ _ _ [] _); exact dvA_nil)
    | ((with_reducible show DvA _ _ _ _ _ _ _ _ (_ :: _) _); exact dvA_cons (by k_extra "my dv") (by k_extra "my dvs"))
  k_with "my dv" => first
    | ((with_reducible show Dv _ _ _ _ _ _ _ _ (PySem.Expr.Name _ _) _); exact dv_name (by exact rfl) (by k_extra "my dat") (by exact rfl) (by exact rfl) (by decide))
    | ((with_reducible show Dv _ _ _ _ _ _ _ _ (PySem.Expr.Constant _ _ _) _); exact dv_lit (by k_extra "my lit"))
    | ((with_reducible show Dv _ _ _ _ _ _ _ _ (PySem.Expr.Subscript _ (PySem.Expr.Constant _ _ _) _) _); first | exact dv_item (by k_extra "my dv") (by decide) (by exact rfl) (by exact rfl) | exact dv_item0 (by k_extra "my dv"))
    | ((with_reducible show Dv _ _ _ _ _ _ _ _ (PySem.Expr.Tuple _ _ _) _); first | exact dv_lit (by k_extra "my lit") | exact dv_tuple (by k_extra "my dvs") (by exact Nat.le_of_ble_eq_true rfl))
    | ((with_reducible show Dv _ _ _ _ _ _ _ _ (PySem.Expr.List _ _) _); exact dv_lit (by k_extra "my lit"))
    | ((with_reducible show Dv _ _ _ _ _ _ _ _ (PySem.Expr.BinOp _ PySem.Operator.Mult _ _) _); exact dv_mul (by k_extra "my dv") (by k_extra "my dv") (by mul_fits))
    | ((with_reducible show Dv _ _ _ _ _ _ _ _ (PySem.Expr.BinOp _ PySem.Operator.Add _ _) _); exact dv_add (by k_extra "my dv") (by k_extra "my dv"))
    | ((with_reducible show Dv _ _ _ _ _ _ _ _ (PySem.Expr.BinOp _ PySem.Operator.Sub _ _) _); exact dv_sub (by k_extra "my dv") (by k_extra "my dv"))
    | ((with_reducible show Dv _ _ _ _ _ _ _ _ (PySem.Expr.UnaryOp PySem.UnaryOp.USub _ _) _); exact dv_neg (by k_extra "my dv"))
    | ((with_reducible show Dv _ _ _ _ _ _ _ _ (PySem.Expr.Call _ _ _ _) _); exact dv_call (by k_asm) (by k_asm) (by k_asm) (by exact rfl) (by k_extra "my fn") (by k_is) (by exact rfl) (by k_extra "my dv") (by k_extra "my dvs") (by exact rfl) (by k_extra "my con") (by k_extra "my room") (by k_extra "my units"))
  k_with "eval Call" => (k_here; k_dflt (refine Wq.out ?_; refine' dv_runB (by assumption) (by k_asm) (by k_asm) (by kd_subs) (by kd_subs) (by k_extra "my dv") ?_); intro v9 t9 h9 tk9 F9 N9 O9 D9; (have hB9 := baseOf (by assumption) D9); (try k_dflt (k_extra "my got")); (try k_sweep))
  k_with "eval Tuple" => (k_here; k_dflt (refine Wq.out ?_; refine' dv_runB (by assumption) (by k_asm) (by k_asm) (by kd_subs) (by kd_subs) (by k_extra "my dv") ?_); intro v9 t9 h9 tk9 F9 N9 O9 D9; (have hB9 := baseOf (by assumption) D9); (try k_dflt (k_extra "my got")); (try k_sweep))
  k_with "eval List" => (k_here; k_dflt (refine Wq.out ?_; refine' dv_runB (by assumption) (by k_asm) (by k_asm) (by kd_subs) (by kd_subs) (by k_extra "my dv") ?_); intro v9 t9 h9 tk9 F9 N9 O9 D9; (have hB9 := baseOf (by assumption) D9); (try k_dflt (k_extra "my got")); (try k_sweep))
  k_with "exec Assign" => (k_here; (with_reducible show wpAny _ _ (exec (PySem.Stmt.Assign [PySem.Expr.Tuple [PySem.Expr.Name _ _, PySem.Expr.Name _ _] _ _] _ _) _) _ _ _); k_dflt (refine Wq.out ?_; refine' dv_pair (by assumption) (by k_asm) (by k_asm) (by kd_subs) (by kd_subs) (by k_extra "my dv") (by with_unfolding_all rfl) (by exact rfl) (by exact rfl) (by exact rfl) (by exact rfl) (by exact rfl) ?_); intro vx9 vy9 t9 h9 tk9 F9 N9 O9 D9 E9; (have hB9 := baseOf (by assumption) D9); (try k_sweep))
  k_with "exec Return some" => (k_here; k_dflt (refine Wq.out ?_; refine' dv_ret (by assumption) (by k_asm) (by k_asm) (by kd_subs) (by kd_subs) (by k_extra "my dv") ?_); intro v9 t9 h9 tk9 F9 N9 O9 D9; (try k_sweep))
  k_with "exec Assign" => (k_here; (with_reducible show wpAny _ _ (exec (PySem.Stmt.Assign [PySem.Expr.Name _ _] _ _) _) _ _ _); k_dflt (refine Wq.out ?_; refine' dv_set (by assumption) (by k_asm) (by k_asm) (by kd_subs) (by kd_subs) (by k_extra "my dv") (by exact rfl) (by exact rfl) (by exact rfl) ?_); intro v9 t9 h9 tk9 F9 N9 O9 D9; (have hB9 := baseOf (by assumption) D9); (try k_dflt (k_extra "my got")); (try k_sweep))
  k_with "my fn" => first
    | ((with_reducible show FnAt _ _ _ _ _ (compEnvC _ _ _ _) _ _); exact fnC (by k_asm) (by k_asm) (by k_is) (by exact rfl) (by exact rfl) (by exact rfl) (by decide))
    | exact fnX (by k_asm) (by k_asm) (by exact rfl) (by k_is) (by exact rfl) (by decide)
  k_with "binaryOp FloorDiv int int" => (k_here; (with_reducible refine floordiv_int (by assumption) ?_ (Or.inl (PyProof.noPylong_of_log2 (by assumption)))))
  k_with "call ref" => (k_here; k_dflt (refine' use_cd (by k_asm) (by k_asm) (by k_asm) (by k_asm) (by k_asm) (by first | exact rfl | assumption) (by k_extra "my room") (by k_extra "my units") (by omega) (by first | assumption | exact Bits.neg (by assumption)) ?_); intro g9 g8 t9 h9 tk9 F9 N9; (try k_sweep); (try dsimp only); (try k_fold))
  trivial
set_option maxRecDepth 100000 in
set_option maxHeartbeats 8000000 in
theorem ct_frac {w : World} {mean : ExcName → Option Value} {mg mb : Str → Option Value} {news : Led} {top bottom : Int} {t1 t2 : Tok} (hn : bottom ≠ 0) (hs : Bits 8000 bottom) :
    Gives w mean mg mb 4 80 news news [.int top t1, .int bottom t2] (fun l r => DatIn l r (qd (Rat.divInt top bottom))) := by
  unfold Gives
  k_fill
  intro dp un gd cn cs a ccd cl outer A₀ base h₀ L m s nw Q E B F X N T hk hn hd hu hret
  refine wpAny_call ?_
  k_dflt ktr_enter
  k_steps
  all_goals (try (exfalso; omega))
  all_goals (refine gend hret (by assumption) (by assumption) (Split.skip (by first | exact Split.base0 | exact Split.skip Split.base0)) (by ktn_ord) ?_)
  all_goals first
    | exact qd_frac (by omega) (List.mem_append.mpr (.inr (.head _)))
    | exact qd_fracN (by omega) (List.mem_append.mpr (.inr (.head _)))
theorem bits_1 : Bits 8000 1 := Bits.of (Nat.one_lt_two_pow (Nat.succ_ne_zero _))
set_option maxRecDepth 100000 in
set_option maxHeartbeats 8000000 in
theorem ct_frac1 {w : World} {mean : ExcName → Option Value} {mg mb : Str → Option Value} {news : Led} {top : Int} {t1 : Tok} :
    Gives w mean mg mb 4 80 news news [.int top t1] (fun l r => DatIn l r (qd (Rat.divInt top 1))) := by
  have hs := bits_1
  unfold Gives
  k_fill
  intro dp un gd cn cs a ccd cl outer A₀ base h₀ L m s nw Q E B F X N T hk hn hd hu hret
  refine wpAny_call ?_
  k_dflt ktr_enter
  k_steps
  all_goals (try (exfalso; omega))
  all_goals (refine gend hret (by assumption) (by assumption) (Split.skip (by first | exact Split.base0 | exact Split.skip Split.base0)) (by ktn_ord) ?_)
  all_goals first
    | exact qd_frac (by omega) (List.mem_append.mpr (.inr (.head _)))
    | exact qd_fracN (by omega) (List.mem_append.mpr (.inr (.head _)))
end
section
theorem Bits.mul {n m : Nat} {x y : Int} (hx : Bits n x) (hy : Bits m y) : Bits (n + m) (x * y) := by
  unfold Bits at *
  rw [Int.natAbs_mul, Nat.pow_add]
  exact Nat.mul_lt_mul'' hx hy
theorem Bits.mono {n m : Nat} {x : Int} (hx : Bits n x) (h : n ≤ m) : Bits m x :=
  Bits.of (Nat.lt_of_lt_of_le hx.lt (Nat.pow_le_pow_right (by decide) h))
theorem Bits.lit {x : Int} (h : x.natAbs < 8) : Bits 3 x := Bits.of h
theorem Bits.add {n m : Nat} {x y : Int} (hx : Bits n x) (hy : Bits m y) : Bits (n + m + 1) (x + y) := by
  unfold Bits at *
  have h1 : 2 ^ n ≤ 2 ^ (n + m) := Nat.pow_le_pow_right (by decide) (by omega)
  have h2 : 2 ^ m ≤ 2 ^ (n + m) := Nat.pow_le_pow_right (by decide) (by omega)
  have h3 : 2 ^ (n + m + 1) = 2 ^ (n + m) + 2 ^ (n + m) := by rw [Nat.pow_succ]; omega
  omega
theorem den_ne (q : Rat) : (q.den : Int) ≠ 0 := by have := q.den_pos; omega
theorem den_pos (q : Rat) : 0 < (q.den : Int) := by have := q.den_pos; omega
theorem dens_ne (a b : Rat) : (a.den : Int) * (b.den : Int) ≠ 0 := Int.mul_ne_zero (den_ne a) (den_ne b)
theorem add_frac (a b : Rat) : Rat.divInt (a.num * b.den + b.num * a.den) (a.den * b.den) = a + b := by
  rw [← Rat.divInt_add_divInt _ _ (den_ne a) (den_ne b), Rat.num_divInt_den, Rat.num_divInt_den]
theorem sub_frac (a b : Rat) : Rat.divInt (a.num * b.den - b.num * a.den) (a.den * b.den) = a - b := by
  rw [← Rat.divInt_sub_divInt _ _ (den_ne a) (den_ne b), Rat.num_divInt_den, Rat.num_divInt_den]
theorem mul_frac (a b : Rat) : Rat.divInt (a.num * b.num) (a.den * b.den) = a * b := by
  rw [← Rat.divInt_mul_divInt, Rat.num_divInt_den, Rat.num_divInt_den]

theorem dat_add_frac {l : Led} {r : Value} {a b : Rat} (h : DatIn l r (qd (Rat.divInt (a.num * b.den + b.num * a.den) (a.den * b.den)))) : DatIn l r (qd (a + b)) := by rw [add_frac] at h; exact h
theorem dat_sub_frac {l : Led} {r : Value} {a b : Rat} (h : DatIn l r (qd (Rat.divInt (a.num * b.den - b.num * a.den) (a.den * b.den)))) : DatIn l r (qd (a - b)) := by rw [sub_frac] at h; exact h
theorem dat_mul_frac {l : Led} {r : Value} {a b : Rat} (h : DatIn l r (qd (Rat.divInt (a.num * b.num) (a.den * b.den)))) : DatIn l r (qd (a * b)) := by rw [mul_frac] at h; exact h

theorem con_frac {w : World} {mean : ExcName → Option Value} {mg mb : Str → Option Value} {top bottom : Int} (hb : bottom ≠ 0) (hs : Bits 8000 bottom) (l : Led) (v : Value) (vs : List Value) (h : DatIn l v (.int top)) (r : DatAll l vs [.int bottom]) :
    Gives w mean mg mb 4 80 l l (v :: vs) (fun l r => DatIn l r (qd (Rat.divInt top bottom))) := by
  obtain ⟨t, rfl⟩ := int_open h
  obtain ⟨u, vr, rfl, h2, r9⟩ := dall_cons r
  obtain ⟨t2, rfl⟩ := int_open h2
  cases dall_nil r9
  exact ct_frac hb hs
theorem reg2 : True := by
  k_with_none
  k_with "kcj_q" => first
    | exact List.mem_cons_self
    | (refine List.mem_cons_of_mem _ ?_; k_extra "kcj_q")
    | (refine List.mem_append.mpr (Or.inr ?_); k_extra "kcj_q")
    | (refine List.mem_append.mpr (Or.inl ?_); k_extra "kcj_q")
    | assumption
    | exact sub_use (by assumption) (by assumption)
  k_with "kd_suf" => first
    | with_reducible exact fun _ h => h
    | (refine sub_cons ?_; k_extra "kd_suf")
    | (refine sub_appR ?_; k_extra "kd_suf")
  k_with "kd_subs" => first
    | k_extra "kd_suf"
    | exact List.forall_mem_nil _
    | assumption
    | (refine List.forall_mem_cons.mpr ⟨?_, ?_⟩; (focus k_extra "kcj_q"); kd_subs)
    | (refine List.forall_mem_append.mpr ⟨?_, ?_⟩; (focus kd_subs); kd_subs)
    | (refine sub_cons ?_; kd_subs)
    | (refine sub_appR ?_; kd_subs)
    | (refine sub_appL ?_; kd_subs)
  k_with "ktn_lt" => first | assumption | exact allLt_of (by assumption) | exact alt1 (by assumption) | exact alt2 (by assumption) | exact alt3 (by assumption) | exact alt4 (by assumption) | exact alt5 (by assumption) | exact alt6 (by assumption)
  k_with "ktn_ord" => first
    | exact Ord.nil
    | assumption
    | (refine Ord.app ?_ ?_ <;> ktn_ord)
    | (refine Ord.lt (by ktn_lt) ?_ ?_; (focus kcj_in); ktn_ord)
    | (refine Ord.le (by ktn_lt) ?_ (by omega) ?_; (focus kcj_in); ktn_ord)
    | (refine Ord.sub (by assumption) ?_; kcj_in)
  k_with "ktr_rel" => first | assumption | (refine DatIn.mono ?_ (by assumption); kd_subs)
  k_with "ktr_enter" => first
    | (refine' code_def (by k_asm) (by k_asm) (by k_asm) (by k_asm) (by k_asm) rfl rfl (by first | assumption | exact rfl) (by k_is) (by k_is) (by k_extra "my room") (by first | exact BindsTo.of_eq rfl | exact binds_K (by k_in) rfl (by k_is) rfl rfl rfl | fail "no rule for these arguments") (locs rfl) ?_ rfl rfl rfl (by decide); k_whole; intro g' L' h' FG' F' N' B' X' T'; (try dsimp only); (try k_fold))
    | (refine' code_defC (by k_asm) (by k_asm) (by k_asm) (by k_asm) (by k_asm) rfl rfl (by first | assumption | exact rfl) (by k_is) (by k_is) (by k_extra "my room") (by first | exact BindsTo.of_eq rfl | exact binds_K (by k_in) rfl (by k_is) rfl rfl rfl | fail "no rule for these arguments") rfl (by decide +kernel) ?_ rfl rfl rfl; k_whole; intro g' L' h' tk' cells' FG' F' N' Y' B' X' T' l1; (try k_lt l1); k_cells Y'; (try simp only [List.cons_append, List.nil_append] at N'); (try dsimp only); (try k_fold))
  k_with "my gend" => (refine' gend (by assumption) (by assumption) (by assumption) (by repeat' (first | exact Split.base0 | refine' Split.skip ?_ | refine' Split.appO (by assumption) ?_ | refine' Split.own ?_)) (by ktn_ord) ?_)
  k_with "my end0" => (refine' gend0 (by assumption) (by assumption) (by assumption) (by kd_subs) ?_; (try unfold Says))
  k_with "my dats" => first | exact DatAll.nil | assumption | (refine DatAll.mono ?_ (by assumption); kd_subs) | (refine DatAll.cons ?_ ?_; (focus k_extra "my dat"); k_extra "my dats")
  k_with "my dat" => first
    | exact DatIn.int _ _
    | assumption
    | (refine DatIn.mono ?_ (by assumption); kd_subs)
    | exact DatIn.tuple (by k_extra "kcj_q") (by k_extra "my dats")
    | exact DatIn.list (by k_extra "kcj_q") (by k_extra "my dats")
  k_with "my rel" => (refine DatIn.mono ?_ (by assumption); kd_subs)
  k_with "my room" => first | exact room1 (by assumption) (by exact rfl) | exact room0 (by assumption) (by exact rfl) | ktr_room
  k_with "my units" => first | exact units1 (by assumption) (by exact rfl) | exact units0 (by assumption) (by exact rfl) | ktr_units
  k_with "my ne" => first | exact ne_gtR (by assumption) (by k_extra "kcj_q") | exact ne_ltR (by assumption) (by k_extra "kcj_q") | k_ne
  k_with "newTuple" => (k_here; k_dflt (refine' kup_newTuple (by k_asm) (by k_asm) ?_ (by kmk_size)); intro D' h' F' N' l1; (try k_sweep))
  k_with "newList" => (k_here; k_dflt (refine' newList_K (by k_asm) (by k_asm) ?_ (by size_fits)); intro l' h' F' N' l1; (try k_sweep))
  k_with "my evv" => first
    | ((with_reducible show Ev _ _ _ _ _ (PySem.Expr.Name _ _) _); exact ev_name (by k_asm) (by exact rfl) (by exact rfl) (by exact rfl) (by decide))
    | ((with_reducible show Ev _ _ _ _ _ (PySem.Expr.Subscript _ (PySem.Expr.Constant _ _ _) _) _); exact ev_item (by k_asm) (by k_extra "my evv") (by k_extra "kcj_q") (by decide) (by exact rfl) (by exact rfl))
  k_with "my ev" => first
    | ((with_reducible show Ev _ _ _ _ _ (PySem.Expr.Constant _ _ _) _); exact ev_int)
    | ((with_reducible show Ev _ _ _ _ _ (PySem.Expr.Name _ _) _); exact ev_nameI (by k_asm) (by exact rfl) (by exact rfl) (by exact rfl) (by decide))
    | ((with_reducible show Ev _ _ _ _ _ (PySem.Expr.Subscript _ (PySem.Expr.Constant _ _ _) _) _); exact ev_itemI (by k_asm) (by k_extra "my evv") (by k_extra "kcj_q") (by decide) (by exact rfl) (by exact rfl))
    | ((with_reducible show Ev _ _ _ _ _ (PySem.Expr.BinOp _ PySem.Operator.Mult _ _) _); exact ev_mul (by k_extra "my ev") (by k_extra "my ev") (by mul_fits))
    | ((with_reducible show Ev _ _ _ _ _ (PySem.Expr.BinOp _ PySem.Operator.Add _ _) _); exact ev_add (by k_extra "my ev") (by k_extra "my ev"))
    | ((with_reducible show Ev _ _ _ _ _ (PySem.Expr.BinOp _ PySem.Operator.Sub _ _) _); exact ev_sub (by k_extra "my ev") (by k_extra "my ev"))
    | ((with_reducible show Ev _ _ _ _ _ (PySem.Expr.UnaryOp PySem.UnaryOp.USub _ _) _); exact ev_neg (by k_extra "my ev"))
  k_with "eval BinOp" => (k_here; k_dflt (refine' ev_runI (by k_extra "my ev") ?_); intro t' tk'; (try dsimp only))
  k_with "eval UnaryOp" => (k_here; (with_reducible show wpAny _ _ (eval (PySem.Expr.UnaryOp _ (PySem.Expr.Subscript _ _ _) _) _) _ _ _); k_dflt (refine' ev_runI (by k_extra "my ev") ?_); intro t' tk'; (try dsimp only))
  k_with "eval Subscript" => (k_here; k_dflt (refine' ev_runV (by k_extra "my evv") ?_); intro tk'; (try dsimp only))
  k_with "my bit" => first | assumption | exact Bd.nu (by assumption) | exact Bd.de (by assumption) | (k_dflt (first | exact bp_nx (by assumption) | exact bp_dx (by assumption) | exact bp_ny (by assumption) | exact bp_dy (by assumption)))
  k_with "my lit" => first
    | ((with_reducible show LitD (PySem.Expr.Constant (PySem.Const.int _) _ _) _); exact lit_int)
    | ((with_reducible show LitD (PySem.Expr.Constant (PySem.Const.str _) _ _) _); exact lit_str)
    | ((with_reducible show LitD (PySem.Expr.UnaryOp PySem.UnaryOp.USub (PySem.Expr.Constant (PySem.Const.int _) _ _) _) _); exact lit_neg)
    | ((with_reducible show LitD (PySem.Expr.Tuple _ _ _) _); exact lit_tuple (by k_extra "my lits") (by exact Nat.le_of_ble_eq_true rfl))
    | ((with_reducible show LitD (PySem.Expr.List _ _) _); exact lit_list (by k_extra "my lits") (by exact Nat.le_of_ble_eq_true rfl))
  k_with "my lits" => first
    | ((with_reducible show LitA [] _); exact litA_nil)
    | ((with_reducible show LitA (_ :: _) _); exact litA_cons (by k_extra "my lit") (by k_extra "my lits"))
  k_with "my dvs" => first
    | ((with_reducible show DvA _ _ _ _ _ _ _ _ [] _); exact dvA_nil)
    | ((with_reducible show DvA _ _ _ _ _ _ _ _ (_ :: _) _); exact dvA_cons (by k_extra "my dv") (by k_extra "my dvs"))
  k_with "my dv" => first
    | ((with_reducible show Dv _ _ _ _ _ _ _ _ (PySem.Expr.Name _ _) _); exact dv_name (by exact rfl) (by k_extra "my dat") (by exact rfl) (by exact rfl) (by decide))
    | ((with_reducible show Dv _ _ _ _ _ _ _ _ (PySem.Expr.Constant _ _ _) _); exact dv_lit (by k_extra "my lit"))
    | ((with_reducible show Dv _ _ _ _ _ _ _ _ (PySem.Expr.Subscript _ (PySem.Expr.Constant _ _ _) _) _); first | exact dv_item (by k_extra "my dv") (by decide) (by exact rfl) (by exact rfl) | exact dv_item0 (by k_extra "my dv"))
    | ((with_reducible show Dv _ _ _ _ _ _ _ _ (PySem.Expr.Tuple _ _ _) _); first | exact dv_lit (by k_extra "my lit") | exact dv_tuple (by k_extra "my dvs") (by exact Nat.le_of_ble_eq_true rfl))
    | ((with_reducible show Dv _ _ _ _ _ _ _ _ (PySem.Expr.List _ _) _); exact dv_lit (by k_extra "my lit"))
    | ((with_reducible show Dv _ _ _ _ _ _ _ _ (PySem.Expr.BinOp _ PySem.Operator.Mult _ _) _); exact dv_mul (by k_extra "my dv") (by k_extra "my dv") (by mul_fits))
    | ((with_reducible show Dv _ _ _ _ _ _ _ _ (PySem.Expr.BinOp _ PySem.Operator.Add _ _) _); exact dv_add (by k_extra "my dv") (by k_extra "my dv"))
    | ((with_reducible show Dv _ _ _ _ _ _ _ _ (PySem.Expr.BinOp _ PySem.Operator.Sub _ _) _); exact dv_sub (by k_extra "my dv") (by k_extra "my dv"))
    | ((with_reducible show Dv _ _ _ _ _ _ _ _ (PySem.Expr.UnaryOp PySem.UnaryOp.USub _ _) _); exact dv_neg (by k_extra "my dv"))
    | ((with_reducible show Dv _ _ _ _ _ _ _ _ (PySem.Expr.Call _ _ _ _) _); exact dv_call (by k_asm) (by k_asm) (by k_asm) (by exact rfl) (by k_extra "my fn") (by k_is) (by exact rfl) (by k_extra "my dv") (by k_extra "my dvs") (by exact rfl) (by k_extra "my con") (by k_extra "my room") (by k_extra "my units"))
  k_with "eval Call" => (k_here; k_dflt (refine Wq.out ?_; refine' dv_runB (by assumption) (by k_asm) (by k_asm) (by kd_subs) (by kd_subs) (by k_extra "my dv") ?_); intro v9 t9 h9 tk9 F9 N9 O9 D9; (have hB9 := baseOf (by assumption) D9); (try k_dflt (k_extra "my got")); (try k_sweep))
  k_with "eval Tuple" => (k_here; k_dflt (refine Wq.out ?_; refine' dv_runB (by assumption) (by k_asm) (by k_asm) (by kd_subs) (by kd_subs) (by k_extra "my dv") ?_); intro v9 t9 h9 tk9 F9 N9 O9 D9; (have hB9 := baseOf (by assumption) D9); (try k_dflt (k_extra "my got")); (try k_sweep))
  k_with "eval List" => (k_here; k_dflt (refine Wq.out ?_; refine' dv_runB (by assumption) (by k_asm) (by k_asm) (by kd_subs) (by kd_subs) (by k_extra "my dv") ?_); intro v9 t9 h9 tk9 F9 N9 O9 D9; (have hB9 := baseOf (by assumption) D9); (try k_dflt (k_extra "my got")); (try k_sweep))
  k_with "exec Assign" => (k_here; (with_reducible show wpAny _ _ (exec (PySem.Stmt.Assign [PySem.Expr.Tuple [PySem.Expr.Name _ _, PySem.Expr.Name _ _] _ _] _ _) _) _ _ _); k_dflt (refine Wq.out ?_; refine' dv_pair (by assumption) (by k_asm) (by k_asm) (by kd_subs) (by kd_subs) (by k_extra "my dv") (by with_unfolding_all rfl) (by exact rfl) (by exact rfl) (by exact rfl) (by exact rfl) (by exact rfl) ?_); intro vx9 vy9 t9 h9 tk9 F9 N9 O9 D9 E9; (have hB9 := baseOf (by assumption) D9); (try k_sweep))
  k_with "exec Return some" => (k_here; k_dflt (refine Wq.out ?_; refine' dv_ret (by assumption) (by k_asm) (by k_asm) (by kd_subs) (by kd_subs) (by k_extra "my dv") ?_); intro v9 t9 h9 tk9 F9 N9 O9 D9; (try k_sweep))
  k_with "exec Assign" => (k_here; (with_reducible show wpAny _ _ (exec (PySem.Stmt.Assign [PySem.Expr.Name _ _] _ _) _) _ _ _); k_dflt (refine Wq.out ?_; refine' dv_set (by assumption) (by k_asm) (by k_asm) (by kd_subs) (by kd_subs) (by k_extra "my dv") (by exact rfl) (by exact rfl) (by exact rfl) ?_); intro v9 t9 h9 tk9 F9 N9 O9 D9; (have hB9 := baseOf (by assumption) D9); (try k_dflt (k_extra "my got")); (try k_sweep))
  k_with "my fn" => first
    | ((with_reducible show FnAt _ _ _ _ _ (compEnvC _ _ _ _) _ _); exact fnC (by k_asm) (by k_asm) (by k_is) (by exact rfl) (by exact rfl) (by exact rfl) (by decide))
    | exact fnX (by k_asm) (by k_asm) (by exact rfl) (by k_is) (by exact rfl) (by decide)
  k_with "mul_fits" => (refine Bits.ok (n := 4000) (m := 4000) ?_ ?_ (by decide) <;> k_extra "my bit")
  k_with "my con" => exact con_frac (dens_ne _ _) (Bits.mul (n := 4000) (m := 4000) (by k_extra "my bit") (by k_extra "my bit"))
  trivial
set_option maxRecDepth 100000 in
set_option maxHeartbeats 8000000 in
theorem ct_plus {w : World} {mean : ExcName → Option Value} {mg mb : Str → Option Value} {news : Led} {va vb : Value} {a b : Rat} (da : DatIn news va (qd a)) (db : DatIn news vb (qd b)) (sa : Bd 4000 a) (sb : Bd 4000 b) :
    Gives w mean mg mb 6 87 news news [va, vb] (fun l r => DatIn l r (qd (a + b))) := by
  unfold Gives
  k_fill
  have hM := kdMark
  have hB : BaseIs [] news := ⟨⟩
  intro dp un gd cn cs a ccd cl outer A₀ base h₀ L m s nw Q E B F X N T hk hn hd hu hret
  refine wpAny_call ?_
  k_dflt ktr_enter
  k_steps
  exact gend hret (by assumption) (by assumption) (Split.app Split.base0) (by rw [List.append_nil]; assumption) (by rw [List.append_nil]; exact dat_add_frac (swapD D9))
theorem con_plus {w : World} {mean : ExcName → Option Value} {mg mb : Str → Option Value} {a b : Rat} (sa : Bd 4000 a) (sb : Bd 4000 b) (l : Led) (v : Value) (vs : List Value) (h : DatIn l v (qd a)) (r : DatAll l vs [qd b]) :
    Gives w mean mg mb 6 87 l l (v :: vs) (fun l r => DatIn l r (qd (a + b))) := by
  obtain ⟨u, vr, rfl, h2, r9⟩ := dall_cons r
  cases dall_nil r9
  exact ct_plus h h2 sa sb
set_option maxRecDepth 100000 in
set_option maxHeartbeats 8000000 in
theorem ct_minus {w : World} {mean : ExcName → Option Value} {mg mb : Str → Option Value} {news : Led} {va vb : Value} {a b : Rat} (da : DatIn news va (qd a)) (db : DatIn news vb (qd b)) (sa : Bd 4000 a) (sb : Bd 4000 b) :
    Gives w mean mg mb 6 94 news news [va, vb] (fun l r => DatIn l r (qd (a - b))) := by
  unfold Gives
  k_fill
  have hM := kdMark
  have hB : BaseIs [] news := ⟨⟩
  intro dp un gd cn cs a ccd cl outer A₀ base h₀ L m s nw Q E B F X N T hk hn hd hu hret
  refine wpAny_call ?_
  k_dflt ktr_enter
  k_steps
  exact gend hret (by assumption) (by assumption) (Split.app Split.base0) (by rw [List.append_nil]; assumption) (by rw [List.append_nil]; exact dat_sub_frac (swapD D9))
theorem con_minus {w : World} {mean : ExcName → Option Value} {mg mb : Str → Option Value} {a b : Rat} (sa : Bd 4000 a) (sb : Bd 4000 b) (l : Led) (v : Value) (vs : List Value) (h : DatIn l v (qd a)) (r : DatAll l vs [qd b]) :
    Gives w mean mg mb 6 94 l l (v :: vs) (fun l r => DatIn l r (qd (a - b))) := by
  obtain ⟨u, vr, rfl, h2, r9⟩ := dall_cons r
  cases dall_nil r9
  exact ct_minus h h2 sa sb
set_option maxRecDepth 100000 in
set_option maxHeartbeats 8000000 in
theorem ct_times {w : World} {mean : ExcName → Option Value} {mg mb : Str → Option Value} {news : Led} {va vb : Value} {a b : Rat} (da : DatIn news va (qd a)) (db : DatIn news vb (qd b)) (sa : Bd 4000 a) (sb : Bd 4000 b) :
    Gives w mean mg mb 6 101 news news [va, vb] (fun l r => DatIn l r (qd (a * b))) := by
  unfold Gives
  k_fill
  have hM := kdMark
  have hB : BaseIs [] news := ⟨⟩
  intro dp un gd cn cs a ccd cl outer A₀ base h₀ L m s nw Q E B F X N T hk hn hd hu hret
  refine wpAny_call ?_
  k_dflt ktr_enter
  k_steps
  exact gend hret (by assumption) (by assumption) (Split.app Split.base0) (by rw [List.append_nil]; assumption) (by rw [List.append_nil]; exact dat_mul_frac (swapD D9))
theorem con_times {w : World} {mean : ExcName → Option Value} {mg mb : Str → Option Value} {a b : Rat} (sa : Bd 4000 a) (sb : Bd 4000 b) (l : Led) (v : Value) (vs : List Value) (h : DatIn l v (qd a)) (r : DatAll l vs [qd b]) :
    Gives w mean mg mb 6 101 l l (v :: vs) (fun l r => DatIn l r (qd (a * b))) := by
  obtain ⟨u, vr, rfl, h2, r9⟩ := dall_cons r
  cases dall_nil r9
  exact ct_times h h2 sa sb
end
section
theorem bd_divInt {n : Nat} {x y : Int} (h : y ≠ 0) (hx : Bits n x) (hy : Bits n y) : Bd n (Rat.divInt x y) := by
  constructor
  · unfold Bits at *
    rw [Rat.num_divInt]
    refine Nat.lt_of_le_of_lt (Int.natAbs_ediv_le_natAbs _ _) ?_
    rw [Int.natAbs_mul, Int.natAbs_sign_of_ne_zero h, Nat.one_mul]
    exact hx
  · unfold Bits at *
    rw [Rat.den_divInt, if_neg h]
    exact Nat.lt_of_le_of_lt (Nat.div_le_self _ _) hy
theorem Bits.sub {n m : Nat} {x y : Int} (hx : Bits n x) (hy : Bits m y) : Bits (n + m + 1) (x - y) := by
  rw [Int.sub_eq_add_neg]
  exact Bits.add hx (Bits.neg hy)
theorem Bd.mono {n m : Nat} {q : Rat} (h : Bd n q) (k : n ≤ m) : Bd m q := ⟨h.1.mono k, h.2.mono k⟩
theorem Bd.add {n m : Nat} {a b : Rat} (ha : Bd n a) (hb : Bd m b) : Bd (2 * (n + m) + 1) (a + b) := by
  rw [← add_frac]
  exact bd_divInt (dens_ne a b) ((Bits.add (Bits.mul ha.1 hb.2) (Bits.mul hb.1 ha.2)).mono (by omega)) ((Bits.mul ha.2 hb.2).mono (by omega))
theorem Bd.sub {n m : Nat} {a b : Rat} (ha : Bd n a) (hb : Bd m b) : Bd (2 * (n + m) + 1) (a - b) := by
  rw [← sub_frac]
  exact bd_divInt (dens_ne a b) ((Bits.sub (Bits.mul ha.1 hb.2) (Bits.mul hb.1 ha.2)).mono (by omega)) ((Bits.mul ha.2 hb.2).mono (by omega))
theorem Bd.mul {n m : Nat} {a b : Rat} (ha : Bd n a) (hb : Bd m b) : Bd (n + m) (a * b) := by
  rw [← mul_frac]
  exact bd_divInt (dens_ne a b) (Bits.mul ha.1 hb.1) (Bits.mul ha.2 hb.2)

abbrev Pt := Rat × Rat
def Bp (n : Nat) (p : Pt) : Prop := Bd n p.1 ∧ Bd n p.2
def mx1 (t a b : Rat) : Rat := a + t * (b - a)
def mx (t : Rat) (p q : Pt) : Pt := (mx1 t p.1 q.1, mx1 t p.2 q.2)
theorem Bd.mx1 {n m : Nat} {t a b : Rat} (ht : Bd m t) (ha : Bd n a) (hb : Bd n b) : Bd (12 * n + 2 * m + 4) (mx1 t a b) := by
  have h := Bd.add ha (Bd.mul ht (Bd.sub hb ha))
  exact h.mono (by omega)
theorem Bp.mx {n m : Nat} {t : Rat} {p q : Pt} (ht : Bd m t) (hp : Bp n p) (hq : Bp n q) : Bp (12 * n + 2 * m + 4) (mx t p q) :=
  ⟨Bd.mx1 ht hp.1 hq.1, Bd.mx1 ht hp.2 hq.2⟩

theorem pd_mk {l : Led} {D : Addr} {x y : Value} {n : Nat} {p : Pt} (h : (D, ({ cls := .type "tuple", data := .seq #[x, y] n } : Obj)) ∈ l) (hx : DatIn l x (qd p.1)) (hy : DatIn l y (qd p.2)) : DatIn l (.ref D) (pd p) :=
  DatIn.tuple h (.cons hx (.cons hy .nil))


theorem reg3 : True := by
  k_with_none
  k_with "kcj_q" => first
    | exact List.mem_cons_self
    | (refine List.mem_cons_of_mem _ ?_; k_extra "kcj_q")
    | (refine List.mem_append.mpr (Or.inr ?_); k_extra "kcj_q")
    | (refine List.mem_append.mpr (Or.inl ?_); k_extra "kcj_q")
    | assumption
    | exact sub_use (by assumption) (by assumption)
  k_with "kd_suf" => first
    | with_reducible exact fun _ h => h
    | (refine sub_cons ?_; k_extra "kd_suf")
    | (refine sub_appR ?_; k_extra "kd_suf")
  k_with "kd_subs" => first
    | k_extra "kd_suf"
    | exact List.forall_mem_nil _
    | assumption
    | (refine List.forall_mem_cons.mpr ⟨?_, ?_⟩; (focus k_extra "kcj_q"); kd_subs)
    | (refine List.forall_mem_append.mpr ⟨?_, ?_⟩; (focus kd_subs); kd_subs)
    | (refine sub_cons ?_; kd_subs)
    | (refine sub_appR ?_; kd_subs)
    | (refine sub_appL ?_; kd_subs)
  k_with "ktn_lt" => first | assumption | exact allLt_of (by assumption) | exact alt1 (by assumption) | exact alt2 (by assumption) | exact alt3 (by assumption) | exact alt4 (by assumption) | exact alt5 (by assumption) | exact alt6 (by assumption)
  k_with "ktn_ord" => first
    | exact Ord.nil
    | assumption
    | (refine Ord.app ?_ ?_ <;> ktn_ord)
    | (refine Ord.lt (by ktn_lt) ?_ ?_; (focus kcj_in); ktn_ord)
    | (refine Ord.le (by ktn_lt) ?_ (by omega) ?_; (focus kcj_in); ktn_ord)
    | (refine Ord.sub (by assumption) ?_; kcj_in)
  k_with "ktr_rel" => first | assumption | (refine DatIn.mono ?_ (by assumption); kd_subs)
  k_with "ktr_enter" => first
    | (refine' code_def (by k_asm) (by k_asm) (by k_asm) (by k_asm) (by k_asm) rfl rfl (by first | assumption | exact rfl) (by k_is) (by k_is) (by k_extra "my room") (by first | exact BindsTo.of_eq rfl | exact binds_K (by k_in) rfl (by k_is) rfl rfl rfl | fail "no rule for these arguments") (locs rfl) ?_ rfl rfl rfl (by decide); k_whole; intro g' L' h' FG' F' N' B' X' T'; (try dsimp only); (try k_fold))
    | (refine' code_defC (by k_asm) (by k_asm) (by k_asm) (by k_asm) (by k_asm) rfl rfl (by first | assumption | exact rfl) (by k_is) (by k_is) (by k_extra "my room") (by first | exact BindsTo.of_eq rfl | exact binds_K (by k_in) rfl (by k_is) rfl rfl rfl | fail "no rule for these arguments") rfl (by decide +kernel) ?_ rfl rfl rfl; k_whole; intro g' L' h' tk' cells' FG' F' N' Y' B' X' T' l1; (try k_lt l1); k_cells Y'; (try simp only [List.cons_append, List.nil_append] at N'); (try dsimp only); (try k_fold))
  k_with "my gend" => (refine' gend (by assumption) (by assumption) (by assumption) (by repeat' (first | exact Split.base0 | refine' Split.skip ?_ | refine' Split.appO (by assumption) ?_ | refine' Split.own ?_)) (by ktn_ord) ?_)
  k_with "my end0" => (refine' gend0 (by assumption) (by assumption) (by assumption) (by kd_subs) ?_; (try unfold Says))
  k_with "my dats" => first | exact DatAll.nil | assumption | (refine DatAll.mono ?_ (by assumption); kd_subs) | (refine DatAll.cons ?_ ?_; (focus k_extra "my dat"); k_extra "my dats")
  k_with "my dat" => first
    | exact DatIn.int _ _
    | assumption
    | (refine DatIn.mono ?_ (by assumption); kd_subs)
    | exact DatIn.tuple (by k_extra "kcj_q") (by k_extra "my dats")
    | exact DatIn.list (by k_extra "kcj_q") (by k_extra "my dats")
  k_with "my rel" => (refine DatIn.mono ?_ (by assumption); kd_subs)
  k_with "my room" => first | exact room1 (by assumption) (by exact rfl) | exact room0 (by assumption) (by exact rfl) | ktr_room
  k_with "my units" => first | exact units1 (by assumption) (by exact rfl) | exact units0 (by assumption) (by exact rfl) | ktr_units
  k_with "my ne" => first | exact ne_gtR (by assumption) (by k_extra "kcj_q") | exact ne_ltR (by assumption) (by k_extra "kcj_q") | k_ne
  k_with "newTuple" => (k_here; k_dflt (refine' kup_newTuple (by k_asm) (by k_asm) ?_ (by kmk_size)); intro D' h' F' N' l1; (try k_sweep))
  k_with "newList" => (k_here; k_dflt (refine' newList_K (by k_asm) (by k_asm) ?_ (by size_fits)); intro l' h' F' N' l1; (try k_sweep))
  k_with "my evv" => first
    | ((with_reducible show Ev _ _ _ _ _ (PySem.Expr.Name _ _) _); exact ev_name (by k_asm) (by exact rfl) (by exact rfl) (by exact rfl) (by decide))
    | ((with_reducible show Ev _ _ _ _ _ (PySem.Expr.Subscript _ (PySem.Expr.Constant _ _ _) _) _); exact ev_item (by k_asm) (by k_extra "my evv") (by k_extra "kcj_q") (by decide) (by exact rfl) (by exact rfl))
  k_with "my ev" => first
    | ((with_reducible show Ev _ _ _ _ _ (PySem.Expr.Constant _ _ _) _); exact ev_int)
    | ((with_reducible show Ev _ _ _ _ _ (PySem.Expr.Name _ _) _); exact ev_nameI (by k_asm) (by exact rfl) (by exact rfl) (by exact rfl) (by decide))
    | ((with_reducible show Ev _ _ _ _ _ (PySem.Expr.Subscript _ (PySem.Expr.Constant _ _ _) _) _); exact ev_itemI (by k_asm) (by k_extra "my evv") (by k_extra "kcj_q") (by decide) (by exact rfl) (by exact rfl))
    | ((with_reducible show Ev _ _ _ _ _ (PySem.Expr.BinOp _ PySem.Operator.Mult _ _) _); exact ev_mul (by k_extra "my ev") (by k_extra "my ev") (by mul_fits))
    | ((with_reducible show Ev _ _ _ _ _ (PySem.Expr.BinOp _ PySem.Operator.Add _ _) _); exact ev_add (by k_extra "my ev") (by k_extra "my ev"))
    | ((with_reducible show Ev _ _ _ _ _ (PySem.Expr.BinOp _ PySem.Operator.Sub _ _) _); exact ev_sub (by k_extra "my ev") (by k_extra "my ev"))
    | ((with_reducible show Ev _ _ _ _ _ (PySem.Expr.UnaryOp PySem.UnaryOp.USub _ _) _); exact ev_neg (by k_extra "my ev"))
  k_with "eval BinOp" => (k_here; k_dflt (refine' ev_runI (by k_extra "my ev") ?_); intro t' tk'; (try dsimp only))
  k_with "eval UnaryOp" => (k_here; (with_reducible show wpAny _ _ (eval (PySem.Expr.UnaryOp _ (PySem.Expr.Subscript _ _ _) _) _) _ _ _); k_dflt (refine' ev_runI (by k_extra "my ev") ?_); intro t' tk'; (try dsimp only))
  k_with "eval Subscript" => (k_here; k_dflt (refine' ev_runV (by k_extra "my evv") ?_); intro tk'; (try dsimp only))
  k_with "my bit" => first | assumption | exact Bd.nu (by assumption) | exact Bd.de (by assumption) | (k_dflt (first | exact bp_nx (by assumption) | exact bp_dx (by assumption) | exact bp_ny (by assumption) | exact bp_dy (by assumption)))
  k_with "my lit" => first
    | ((with_reducible show LitD (PySem.Expr.Constant (PySem.Const.int _) _ _) _); exact lit_int)
    | ((with_reducible show LitD (PySem.Expr.Constant (PySem.Const.str _) _ _) _); exact lit_str)
    | ((with_reducible show LitD (PySem.Expr.UnaryOp PySem.UnaryOp.USub (PySem.Expr.Constant (PySem.Const.int _) _ _) _) _); exact lit_neg)
    | ((with_reducible show LitD (PySem.Expr.Tuple _ _ _) _); exact lit_tuple (by k_extra "my lits") (by exact Nat.le_of_ble_eq_true rfl))
    | ((with_reducible show LitD (PySem.Expr.List _ _) _); exact lit_list (by k_extra "my lits") (by exact Nat.le_of_ble_eq_true rfl))
  k_with "my lits" => first
    | ((with_reducible show LitA [] _); exact litA_nil)
    | ((with_reducible show LitA (_ :: _) _); exact litA_cons (by k_extra "my lit") (by k_extra "my lits"))
  k_with "my dvs" => first
    | ((with_reducible show DvA _ _ _ _ _ _ _ _ [] _); exact dvA_nil)
    | ((with_reducible show DvA _ _ _ _ _ _ _ _ (_ :: _) _); exact dvA_cons (by k_extra "my dv") (by k_extra "my dvs"))
  k_with "my dv" => first
    | ((with_reducible show Dv _ _ _ _ _ _ _ _ (PySem.Expr.Name _ _) _); exact dv_name (by exact rfl) (by k_extra "my dat") (by exact rfl) (by exact rfl) (by decide))
    | ((with_reducible show Dv _ _ _ _ _ _ _ _ (PySem.Expr.Constant _ _ _) _); exact dv_lit (by k_extra "my lit"))
    | ((with_reducible show Dv _ _ _ _ _ _ _ _ (PySem.Expr.Subscript _ (PySem.Expr.Constant _ _ _) _) _); first | exact dv_item (by k_extra "my dv") (by decide) (by exact rfl) (by exact rfl) | exact dv_item0 (by k_extra "my dv"))
    | ((with_reducible show Dv _ _ _ _ _ _ _ _ (PySem.Expr.Tuple _ _ _) _); first | exact dv_lit (by k_extra "my lit") | exact dv_tuple (by k_extra "my dvs") (by exact Nat.le_of_ble_eq_true rfl))
    | ((with_reducible show Dv _ _ _ _ _ _ _ _ (PySem.Expr.List _ _) _); exact dv_lit (by k_extra "my lit"))
    | ((with_reducible show Dv _ _ _ _ _ _ _ _ (PySem.Expr.BinOp _ PySem.Operator.Mult _ _) _); exact dv_mul (by k_extra "my dv") (by k_extra "my dv") (by mul_fits))
    | ((with_reducible show Dv _ _ _ _ _ _ _ _ (PySem.Expr.BinOp _ PySem.Operator.Add _ _) _); exact dv_add (by k_extra "my dv") (by k_extra "my dv"))
    | ((with_reducible show Dv _ _ _ _ _ _ _ _ (PySem.Expr.BinOp _ PySem.Operator.Sub _ _) _); exact dv_sub (by k_extra "my dv") (by k_extra "my dv"))
    | ((with_reducible show Dv _ _ _ _ _ _ _ _ (PySem.Expr.UnaryOp PySem.UnaryOp.USub _ _) _); exact dv_neg (by k_extra "my dv"))
    | ((with_reducible show Dv _ _ _ _ _ _ _ _ (PySem.Expr.Call _ _ _ _) _); exact dv_call (by k_asm) (by k_asm) (by k_asm) (by exact rfl) (by k_extra "my fn") (by k_is) (by exact rfl) (by k_extra "my dv") (by k_extra "my dvs") (by exact rfl) (by k_extra "my con") (by k_extra "my room") (by k_extra "my units"))
  k_with "eval Call" => (k_here; k_dflt (refine Wq.out ?_; refine' dv_runB (by assumption) (by k_asm) (by k_asm) (by kd_subs) (by kd_subs) (by k_extra "my dv") ?_); intro v9 t9 h9 tk9 F9 N9 O9 D9; (have hB9 := baseOf (by assumption) D9); (try k_dflt (k_extra "my got")); (try k_sweep))
  k_with "eval Tuple" => (k_here; k_dflt (refine Wq.out ?_; refine' dv_runB (by assumption) (by k_asm) (by k_asm) (by kd_subs) (by kd_subs) (by k_extra "my dv") ?_); intro v9 t9 h9 tk9 F9 N9 O9 D9; (have hB9 := baseOf (by assumption) D9); (try k_dflt (k_extra "my got")); (try k_sweep))
  k_with "eval List" => (k_here; k_dflt (refine Wq.out ?_; refine' dv_runB (by assumption) (by k_asm) (by k_asm) (by kd_subs) (by kd_subs) (by k_extra "my dv") ?_); intro v9 t9 h9 tk9 F9 N9 O9 D9; (have hB9 := baseOf (by assumption) D9); (try k_dflt (k_extra "my got")); (try k_sweep))
  k_with "exec Assign" => (k_here; (with_reducible show wpAny _ _ (exec (PySem.Stmt.Assign [PySem.Expr.Tuple [PySem.Expr.Name _ _, PySem.Expr.Name _ _] _ _] _ _) _) _ _ _); k_dflt (refine Wq.out ?_; refine' dv_pair (by assumption) (by k_asm) (by k_asm) (by kd_subs) (by kd_subs) (by k_extra "my dv") (by with_unfolding_all rfl) (by exact rfl) (by exact rfl) (by exact rfl) (by exact rfl) (by exact rfl) ?_); intro vx9 vy9 t9 h9 tk9 F9 N9 O9 D9 E9; (have hB9 := baseOf (by assumption) D9); (try k_sweep))
  k_with "exec Return some" => (k_here; k_dflt (refine Wq.out ?_; refine' dv_ret (by assumption) (by k_asm) (by k_asm) (by kd_subs) (by kd_subs) (by k_extra "my dv") ?_); intro v9 t9 h9 tk9 F9 N9 O9 D9; (try k_sweep))
  k_with "exec Assign" => (k_here; (with_reducible show wpAny _ _ (exec (PySem.Stmt.Assign [PySem.Expr.Name _ _] _ _) _) _ _ _); k_dflt (refine Wq.out ?_; refine' dv_set (by assumption) (by k_asm) (by k_asm) (by kd_subs) (by kd_subs) (by k_extra "my dv") (by exact rfl) (by exact rfl) (by exact rfl) ?_); intro v9 t9 h9 tk9 F9 N9 O9 D9; (have hB9 := baseOf (by assumption) D9); (try k_dflt (k_extra "my got")); (try k_sweep))
  k_with "my fn" => first
    | ((with_reducible show FnAt _ _ _ _ _ (compEnvC _ _ _ _) _ _); exact fnC (by k_asm) (by k_asm) (by k_is) (by exact rfl) (by exact rfl) (by exact rfl) (by decide))
    | exact fnX (by k_asm) (by k_asm) (by exact rfl) (by k_is) (by exact rfl) (by decide)
  k_with "my con" => first | exact con_plus (by assumption) (by assumption) | exact con_minus (by assumption) (by assumption) | exact con_times (by assumption) (by assumption)
  trivial
set_option maxRecDepth 100000 in
set_option maxHeartbeats 8000000 in
theorem ct_mixed {w : World} {mean : ExcName → Option Value} {mg mb : Str → Option Value} {news : Led} {vp vq vt : Value} {p q : Pt} {t : Rat} (dp9 : DatIn news vp (pd p)) (dq9 : DatIn news vq (pd q)) (dt9 : DatIn news vt (qd t)) (sp : Bp 900 p) (sq : Bp 900 q) (st : Bd 100 t) :
    Gives w mean mg mb 8 108 news news [vp, vq, vt] (fun l r => DatIn l r (pd (mx t p q))) := by
  unfold Gives
  k_fill
  have s1 : Bd 4000 (q.1 - p.1) := (Bd.sub sq.1 sp.1).mono (by decide)
  have s2 : Bd 4000 (q.2 - p.2) := (Bd.sub sq.2 sp.2).mono (by decide)
  have s3 : Bd 4000 (t * (q.1 - p.1)) := (Bd.mul st (Bd.sub sq.1 sp.1)).mono (by decide)
  have s4 : Bd 4000 (t * (q.2 - p.2)) := (Bd.mul st (Bd.sub sq.2 sp.2)).mono (by decide)
  have s5 : Bd 4000 p.1 := sp.1.mono (by decide)
  have s6 : Bd 4000 p.2 := sp.2.mono (by decide)
  have s7 : Bd 4000 q.1 := sq.1.mono (by decide)
  have s8 : Bd 4000 q.2 := sq.2.mono (by decide)
  have s9 : Bd 4000 t := st.mono (by decide)
  have hM := kdMark
  have hB : BaseIs [] news := ⟨⟩
  intro dp un gd cn cs a ccd cl outer A₀ base h₀ L m s nw Q E B F X N T hk hn hd hu hret
  refine wpAny_call ?_
  k_dflt ktr_enter
  k_steps
  exact gend hret (by assumption) (by assumption) (Split.app Split.base0) (by rw [List.append_nil]; assumption) (by rw [List.append_nil]; exact swapD D9)
theorem con_mixed {w : World} {mean : ExcName → Option Value} {mg mb : Str → Option Value} {p q : Pt} {t : Rat} (sp : Bp 900 p) (sq : Bp 900 q) (st : Bd 100 t) (l : Led) (v : Value) (vs : List Value) (h : DatIn l v (pd p)) (r : DatAll l vs [pd q, qd t]) :
    Gives w mean mg mb 8 108 l l (v :: vs) (fun l r => DatIn l r (pd (mx t p q))) := by
  obtain ⟨u, vr, rfl, h2, r9⟩ := dall_cons r
  obtain ⟨u3, vr, rfl, h3, r9⟩ := dall_cons r9
  cases dall_nil r9
  exact ct_mixed h h2 h3 sp sq st
end
section
def pair2 (x y : Str) : List Value → List Value → List (Tok → List (Str × Value))
  | a :: as, b :: bs => (fun _ => [(y, b), (x, a)]) :: pair2 x y as bs
  | _, _ => []
theorem pair2_get {x y : Str} : ∀ {as bs : List Value} {i : Nat} {a b : Value}, as[i]? = some a → bs[i]? = some b → (pair2 x y as bs)[i]? = some fun _ => [(y, b), (x, a)]
  | a :: as, b :: bs, 0, _, _, h1, h2 => by cases h1; cases h2; rfl
  | a :: as, b :: bs, i + 1, _, _, h1, h2 => by
    have := pair2_get (x := x) (y := y) (i := i) (as := as) (bs := bs) (by simpa using h1) (by simpa using h2)
    simpa [pair2] using this
  | [], _, _, _, _, h1, _ => by simp at h1
  | _ :: _, [], _, _, _, _, h2 => by simp at h2
theorem pair2_length {x y : Str} : ∀ {as bs : List Value}, (pair2 x y as bs).length = min as.length bs.length
  | [], _ => by simp [pair2]
  | _ :: _, [] => by simp [pair2]
  | _ :: as, _ :: bs => by
    have := pair2_length (x := x) (y := y) (as := as) (bs := bs)
    simp only [pair2, List.length_cons, this]
    omega
section
variable {prog : Program} {w : World} {A : Around} {E : Value → Shared → Prop} {s : Shared} {env : Env} {h₀ : Heap} {body : List Stmt} {Q : Flow → Shared → Prop}
/-- over zip of two lists of the ledger -/
theorem for_zip2 {x y : Str} {px py tp : Pos} {kk : Nat} {l1 l2 : Addr} {us vs : List Value} {k1 k2 : Nat} {m₀ : Str → Option Value} {news : LedT} (hh : A.handled = none) (F : Fr h₀ env.locals s.heap m₀) (N : News h₀ env.locals s.heap news)
    (hm1 : (l1, W.listOf us.toArray k1) ∈ news) (hm2 : (l2, W.listOf vs.toArray k2) ∈ news)
    (ha : env.kindOf x = some .local) (hb : env.kindOf y = some .local) (hp : (env.scope.kind == .class || (env.scope.kind == .module && env.locals != env.globals)) = false)
    (rest : PRest prog w A E h₀ env body Q s news (pair2 x y us vs) m₀) :
    wpAny (model prog w) A (call (.type "zip") [.ref l1, .ref l2]) (fun xv s₁ => wpAny (model prog w) A (pyIter xv) (fun it s₂ => TurnsAt prog w A h₀ env (.Tuple [.Name x px, .Name y py] kk tp) body Q E it s₂) E s₁) E s := by
  have a1 := N _ hm1
  have a2 := N _ hm2
  have t1 : s.heap.IsList l1 us.toArray := ⟨_, a1.1, rfl, _, rfl⟩
  have t2 : s.heap.IsList l2 vs.toArray := ⟨_, a2.1, rfl, _, rfl⟩
  have q1 : l1 < s.heap.objs.size := Heap.lt_size a1.1
  have q2 : l2 < s.heap.objs.size := Heap.lt_size a2.1
  have hLs : env.locals < s.heap.objs.size := F.ns.lt
  have D : ZipApart (s.heap.objs.size + 4) (s.heap.objs.size + 2) (s.heap.objs.size + 3) s.heap.objs.size (s.heap.objs.size + 1) l1 l2 := ktu_apart _ _ _ q1 q2
  refine call_zip_2 t1 t2 fun h' hz hTI hTO hi1 hi2 hsz hk => ?_
  refine wpAny_pyIter_zip hz ?_
  refine pure_for (tk0 := s.toks) (pair2 x y us vs) (KTurns.ofWalksU (WalksT.zip2 hh _ _ _ _ _ _ _ D us.toArray vs.toArray).toU) (by rw [pair2_length]; simp) (fun i v h hp' => ?_) ?_ (fun b hb => ?_) (fun p hp hI => ?_) ⟨hz, hTI, ⟨_, _, hTO⟩, hi1, hi2, t1.at fun o e => hk l1 o e, t2.at fun o e => hk l2 o e⟩ (F.keeps hk) (N.grown hk) rest
  · obtain ⟨T, vals, rfl, ⟨x', y', hx, hy, rfl⟩, hT⟩ := hp'
    exact ⟨_, 0, pair2_get (by simpa using hx) (by simpa using hy), asn_two hh ha hb hp hT⟩
  · intro hI'
    have hb' : env.locals = s.heap.objs.size + 4 ∨ env.locals = s.heap.objs.size + 2 ∨ env.locals = s.heap.objs.size + 3 ∨ env.locals = s.heap.objs.size ∨ env.locals = s.heap.objs.size + 1 ∨ env.locals = l1 ∨ env.locals = l2 := by simpa using hI'
    have n1 := a1.2.1
    have n2 := a2.2.1
    rcases hb' with e | e | e | e | e | e | e
    · exact ktu_ne 4 hLs e
    · exact ktu_ne 2 hLs e
    · exact ktu_ne 3 hLs e
    · exact Nat.ne_of_lt hLs e
    · exact ktu_ne 1 hLs e
    · exact n1 e.symm
    · exact n2 e.symm
  · have hb' : b = s.heap.objs.size + 4 ∨ b = s.heap.objs.size + 3 ∨ b = s.heap.objs.size ∨ b = s.heap.objs.size + 1 := by simpa using hb
    rcases hb' with rfl | rfl | rfl | rfl
    · exact ktu_new F (Nat.le_add_right _ _)
    · exact ktu_new F (Nat.le_add_right _ _)
    · exact ktu_new F (Nat.le_refl _)
    · exact ktu_new F (Nat.le_add_right _ _)
  · have hb' : p.1 = s.heap.objs.size + 4 ∨ p.1 = s.heap.objs.size + 3 ∨ p.1 = s.heap.objs.size ∨ p.1 = s.heap.objs.size + 1 := by simpa using hI
    have hlp := Heap.lt_size (N p hp).1
    rcases hb' with e | e | e | e
    · exact ktu_ne 4 hlp e
    · exact ktu_ne 3 hlp e
    · exact Nat.ne_of_lt hlp e
    · exact ktu_ne 1 hlp e
end
/-! ## small powers -/
theorem Bits.bits {n : Nat} {x : Int} (h : Bits n x) : Builtin.Int.intBits x ≤ n := by
  unfold Builtin.Int.intBits
  split
  · exact Nat.zero_le _
  · rename_i h0
    have h1 : x.natAbs ≠ 0 := by
      intro e
      apply h0
      have : x = 0 := by omega
      subst this
      rfl
    have := (Nat.log2_lt h1).mpr h.lt
    omega
section
variable {prog : Program} {w : World} {A : Around} {E : Value → Shared → Prop} {s : Shared} {a n : Int} {t u : Tok} {Q : Value → Shared → Prop} {b : Nat}
theorem pow_bits {k : Nat} (hb : Bits b a) (hk : n = (k : Int)) (hs : b * k ≤ 1000000) (h : Q (.int (a ^ k) s.toks) { s with toks := s.toks + 1 }) : wpAny (model prog w) A (binaryOp .Pow (.int a t) (.int n u)) Q E s := by
  subst hk
  refine pow_int (Int.natCast_nonneg _) ?_ (by rw [Int.toNat_natCast]; exact h)
  have h1 := hb.bits
  have h2 : Builtin.Int.intBits a * k ≤ b * k := Nat.mul_le_mul_right k h1
  have h3 : ((Builtin.Int.intBits a : Int) * (k : Int)) = ((Builtin.Int.intBits a * k : Nat) : Int) := by simp
  rw [h3]
  have : (2 : Int) ^ 27 = 134217728 := by decide
  rw [this]
  omega
theorem pow0 (hb : Bits b a) (hk : n = 0) (h : Q (.int 1 s.toks) { s with toks := s.toks + 1 }) : wpAny (model prog w) A (binaryOp .Pow (.int a t) (.int n u)) Q E s :=
  pow_bits (k := 0) hb hk (by omega) (by rw [Int.pow_zero]; exact h)
theorem pow1 (hb : Bits b a) (hs : b ≤ 1000) (hk : n = 1) (h : Q (.int a s.toks) { s with toks := s.toks + 1 }) : wpAny (model prog w) A (binaryOp .Pow (.int a t) (.int n u)) Q E s :=
  pow_bits (k := 1) hb hk (by omega) (by rw [Int.pow_succ, Int.pow_zero, Int.one_mul]; exact h)
theorem pow2 (hb : Bits b a) (hs : b ≤ 1000) (hk : n = 2) (h : Q (.int (a * a) s.toks) { s with toks := s.toks + 1 }) : wpAny (model prog w) A (binaryOp .Pow (.int a t) (.int n u)) Q E s :=
  pow_bits (k := 2) hb hk (by omega) (by rw [Int.pow_succ, Int.pow_succ, Int.pow_zero, Int.one_mul]; exact h)
theorem pow3 (hb : Bits b a) (hs : b ≤ 1000) (hk : n = 3) (h : Q (.int (a * a * a) s.toks) { s with toks := s.toks + 1 }) : wpAny (model prog w) A (binaryOp .Pow (.int a t) (.int n u)) Q E s :=
  pow_bits (k := 3) hb hk (by omega) (by rw [Int.pow_succ, Int.pow_succ, Int.pow_succ, Int.pow_zero, Int.one_mul]; exact h)
end
section
variable {prog : Program} {w : World} {A : Around} {E : Value → Shared → Prop} {s : Shared} {h₀ : Heap} {L : Addr} {news : Led}
theorem item_lst {value slice : PySem.Expr} {a : Addr} {vs : List Value} {n : Nat} {k : Int} {u : Tok} {x : Value} {Q : Value → Shared → Prop} (N : News h₀ L s.heap news) (hm : (a, ({ cls := .type "list", data := .seq vs.toArray n } : Obj)) ∈ news)
    (h0 : 0 ≤ k) (hfit : k < 2 ^ 63) (hx : vs[k.toNat]? = some x) (h : Q x s)
    (hs : subscripted slice false (.ref a) (.int k u) = operate [.ref a, .int k u] (getItem (.ref a) (.int k u)) := by with_unfolding_all rfl) :
    wpAny (model prog w) A (subscriptTail value slice (.ref a) (.int k u)) Q E s :=
  have hl : s.heap.IsList a vs.toArray := ⟨_, (N _ hm).1, rfl, _, rfl⟩
  tail_any hl.typeIs slot_list_getitem.lookup (wpAny_getItem_list hl h0 hfit (by simpa using hx) h) hs
theorem item_lstN {value slice : PySem.Expr} {a : Addr} {vs : List Value} {n : Nat} {k : Int} {u : Tok} {j : Nat} {x : Value} {Q : Value → Shared → Prop} (N : News h₀ L s.heap news) (hm : (a, ({ cls := .type "list", data := .seq vs.toArray n } : Obj)) ∈ news)
    (h0 : k < 0) (hlo : -(2 ^ 63) ≤ k) (hj : seqIndex? k vs.length = some j) (hx : vs[j]? = some x) (h : Q x s)
    (hs : subscripted slice false (.ref a) (.int k u) = operate [.ref a, .int k u] (getItem (.ref a) (.int k u)) := by with_unfolding_all rfl) :
    wpAny (model prog w) A (subscriptTail value slice (.ref a) (.int k u)) Q E s :=
  kde_neg ⟨_, (N _ hm).1, rfl, _, rfl⟩ h0 hlo hj hx h hs
end
section
variable {prog : Program} {w : World} {A : Around} {E : Value → Shared → Prop} {s : Shared} {h₀ : Heap} {L : Addr} {news src : Led}
theorem item_lstS {value slice : PySem.Expr} {a : Addr} {o : Obj} {vs : List Value} {n : Nat} {k : Int} {u : Tok} {x : Value} {Q : Value → Shared → Prop} (N : News h₀ L s.heap news) (hm : (a, o) ∈ src) (e : o = { cls := .type "list", data := .seq vs.toArray n }) (hsub : ∀ p ∈ src, p ∈ news)
    (h0 : 0 ≤ k) (hfit : k < 2 ^ 63) (hx : vs[k.toNat]? = some x) (h : Q x s)
    (hs : subscripted slice false (.ref a) (.int k u) = operate [.ref a, .int k u] (getItem (.ref a) (.int k u)) := by with_unfolding_all rfl) :
    wpAny (model prog w) A (subscriptTail value slice (.ref a) (.int k u)) Q E s := item_lst N (hsub _ (e ▸ hm)) h0 hfit hx h hs
theorem item_lstNS {value slice : PySem.Expr} {a : Addr} {o : Obj} {vs : List Value} {n : Nat} {k : Int} {u : Tok} {j : Nat} {x : Value} {Q : Value → Shared → Prop} (N : News h₀ L s.heap news) (hm : (a, o) ∈ src) (e : o = { cls := .type "list", data := .seq vs.toArray n }) (hsub : ∀ p ∈ src, p ∈ news)
    (h0 : k < 0) (hlo : -(2 ^ 63) ≤ k) (hj : seqIndex? k vs.length = some j) (hx : vs[j]? = some x) (h : Q x s)
    (hs : subscripted slice false (.ref a) (.int k u) = operate [.ref a, .int k u] (getItem (.ref a) (.int k u)) := by with_unfolding_all rfl) :
    wpAny (model prog w) A (subscriptTail value slice (.ref a) (.int k u)) Q E s := item_lstN N (hsub _ (e ▸ hm)) h0 hlo hj hx h hs
theorem item_tupS {value slice : PySem.Expr} {a : Addr} {o : Obj} {vs : List Value} {n : Nat} {k : Int} {u : Tok} {j : Nat} {x : Value} {Q : Value → Shared → Prop} (N : News h₀ L s.heap news) (hm : (a, o) ∈ src) (e : o = { cls := .type "tuple", data := .seq vs.toArray n }) (hsub : ∀ p ∈ src, p ∈ news)
    (hlo : -(2 ^ 63) ≤ k) (hhi : k < 2 ^ 63) (hj : seqIndex? k vs.length = some j) (hx : vs[j]? = some x) (h : Q x s)
    (hs : subscripted slice false (.ref a) (.int k u) = operate [.ref a, .int k u] (getItem (.ref a) (.int k u)) := by with_unfolding_all rfl) :
    wpAny (model prog w) A (subscriptTail value slice (.ref a) (.int k u)) Q E s := by
  subst e
  exact item_tupleT ⟨_, (N _ (hsub _ hm)).1, rfl, _, rfl⟩ hlo hhi hj hx h hs
end
/-! ## list(range(..)) -/
structure IntsD (ys : List Value) (ds : List Dat) : Prop where
  all : ∀ n' : Led, DatAll n' ys ds
theorem datAll_get {news : Led} : ∀ {ys : List Value} {ds : List Dat}, ys.length = ds.length → (∀ (j : Nat) (v : Value), ys[j]? = some v → ∃ d, ds[j]? = some d ∧ DatIn news v d) → DatAll news ys ds
  | [], [], _, _ => .nil
  | [], _ :: _, h, _ => by simp at h
  | _ :: _, [], h, _ => by simp at h
  | y :: ys, d :: ds, h, k => by
    obtain ⟨d', e, hd⟩ := k 0 y rfl
    have : d = d' := by simpa using e
    subst this
    exact .cons hd (datAll_get (by simpa using h) fun j v hv => by
      obtain ⟨d'', e', h'⟩ := k (j + 1) v (by simpa using hv)
      exact ⟨d'', by simpa using e', h'⟩)
theorem list_rangeL {prog : Program} {w : World} {A : Around} {E : Value → Shared → Prop} {s : Shared} {h₀ : Heap} {L r : Addr} {m : Str → Option Value} {Q : Value → Shared → Prop} {a b c : Int} {t u v : Tok} {n : Nat} {news : Led} (hr : IsRange s.heap r a b c t u v) (hh : A.handled = none) (F : Fr h₀ L s.heap m) (N : News h₀ L s.heap news)
    (hsmall : Builtin.Range.small a b c = true) (hn : Builtin.Range.rangeSize a b c = (n : Int)) (hlen : n ≤ 2 ^ 24)
    (hQ : ∀ D h' tk ys k, Fr h₀ L h' m → News h₀ L h' ((D, W.listOf (List.toArray ys) k) :: news) → AllLt D news → IntsD ys ((List.range n).map fun (j : Nat) => Dat.int (a + (j : Int) * c)) → Q (.ref D) { s with heap := h', toks := tk }) :
    wpAny (model prog w) A (call (.type "list") [.ref r]) Q E s := by
  refine call_list_range hh hr hsmall hn hlen fun h' tk acc' c' hk hS' hacc => ?_
  have hD' : h'.get? s.heap.objs.size = some (W.listOf (List.toArray acc'.toList) c') := by
    rw [Array.toArray_toList]
    exact hS'
  refine hQ s.heap.objs.size h' tk acc'.toList c' (F.keeps hk) (news_pushed F N hk hD' rfl) (allLt_of fun p hp => Heap.lt_size (N p hp).1) ⟨fun n' => datAll_get (by simp [hacc.1]) fun j x hx => ?_⟩
  have hx' : acc'[j]? = some x := by simpa using hx
  obtain ⟨tk, rfl⟩ := hacc.2 j x hx'
  have hj : j < n := by
    have := (Array.getElem?_eq_some_iff.mp hx').1
    rw [hacc.1] at this; exact this
  exact ⟨.int (a + (j : Nat) * c), by simp [hj], .int _ _⟩
end
section
theorem adjust_rev (n : Nat) : Builtin.Slice.sliceAdjust none none (-1) (n : Int) = ((n : Int) - 1, -1) := by
  unfold Builtin.Slice.sliceAdjust
  have h1 : ((-1 : Int) < 0) := by omega
  simp only [h1, if_true]
theorem places_rev (n : Nat) : Builtin.Slice.slicePlaces ((n : Int) - 1) (-1) (-1) = n := by
  unfold Builtin.Slice.slicePlaces
  have h1 : ¬ ((-1 : Int) > 0) := by omega
  simp only [h1, if_false]
  by_cases h : (n : Int) - 1 > -1
  · simp only [h, if_true]
    have : ((n : Int) - 1 - -1 - 1) / (- -1) + 1 = n := by
      rw [show (- -1 : Int) = 1 by decide, Int.ediv_one]
      omega
    rw [this]
    omega
  · simp only [h, if_false]
    omega
section
variable {prog : Program} {w : World} {A : Around} {E : Value → Shared → Prop} {s : Shared}
theorem sliceApplied_rev {sl : Addr} {n : Nat} {u : Tok} {Q : Int × Int × Nat → Shared → Prop} (hs : s.heap.IsSliceOf sl .none .none (.int (-1) u)) (h : Q ((n : Int) - 1, -1, n) s) :
    wpAny (model prog w) A (Builtin.Slice.sliceApplied (.ref sl) (pure (n : Int))) Q E s := by
  obtain ⟨os, hos, hcs, hds⟩ := id hs
  unfold Builtin.Slice.sliceApplied Builtin.Slice.sliceFields
  refine wpAny_bind (wpAny_bind (wpAny_field hos hds (x := .none) rfl (wpAny_bind (wpAny_field hos hds (x := .none) rfl (wpAny_bind (wpAny_field hos hds (x := .int (-1) u) rfl (wpAny_pure ?_)))))))
  refine wpAny_bind (slicePart_int ?_)
  show wpAny _ _ (if ((-1 : Int) == 0) = true then _ else _) _ _ s
  rw [if_neg (by decide)]
  refine wpAny_bind (slicePart_none (wpAny_bind (slicePart_none (wpAny_bind (wpAny_pure ?_)))))
  show wpAny _ _ (match Builtin.Slice.sliceAdjust none none (-1) (n : Int) with | (lo, hi) => pure (lo, (-1 : Int), Builtin.Slice.slicePlaces lo hi (-1))) _ _ s
  rw [adjust_rev n]
  show wpAny _ _ (pure ((n : Int) - 1, (-1 : Int), Builtin.Slice.slicePlaces ((n : Int) - 1) (-1) (-1))) _ _ s
  rw [places_rev n]
  exact wpAny_pure h
theorem pick_rev (xs : Array Value) : ((List.range xs.size).filterMap fun (k : Nat) => xs[(((xs.size : Nat) : Int) - 1 + (k : Int) * (-1)).toNat]?).toArray = xs.toList.reverse.toArray := by
  have e : (fun (k : Nat) => xs[(((xs.size : Nat) : Int) - 1 + (k : Int) * (-1)).toNat]?) = (fun j => xs[j]?) ∘ fun k => xs.size - 1 - k := by
    funext k
    show _ = xs[xs.size - 1 - k]?
    have : (((xs.size : Nat) : Int) - 1 + (k : Int) * (-1)).toNat = xs.size - 1 - k := by omega
    rw [this]
  rw [e, ← List.filterMap_map, krv_range, List.filterMap_reverse, krv_all]
theorem getItem_tuple_rev {t sl : Addr} {items : Array Value} {u : Tok} {Q : Value → Shared → Prop} (ht : IsTup s.heap t items) (hs : s.heap.IsSliceOf sl .none .none (.int (-1) u))
    (h : Q (.ref s.heap.objs.size) { s with heap := s.heap.push { cls := .type "tuple", data := .seq items.toList.reverse.toArray } })
    (hsz : items.size ≤ sizeLine := by size_fits) : wpAny (model prog w) A (getItem (.ref t) (.ref sl)) Q E s := by
  have hdrop : sizeOk (.seq items.toList.reverse.toArray) := by
    show items.toList.reverse.toArray.size ≤ sizeLine
    rw [List.size_toArray, List.length_reverse, Array.length_toList]
    omega
  obtain ⟨os, hos, hcs, hds⟩ := id hs
  have hTs : s.TypeIs (.ref sl) "slice" := ⟨os, hos, hcs⟩
  unfold getItem
  try with_reducible refine wpAny_holding ?_
  first | refine wpAny_bind (wpAny_pure ?_) | skip
  refine wpAny_bind (wpAny_sequenceKey ht.typeIs (by decide) ?_)
  refine wpAny_bind (wpAny_callSpecial?_slot (name := Str.ofString "__getitem__") ht.typeIs slot_tuple_getitem
    (wpAny_call_entry slot_tuple_getitem ht.typeIs entry_tuple_getitem ?_ (args_tuple_getitem _ _)))
  show wpAny _ _ (Builtin.Tuple.tupleItemsOf (.ref t) >>= _) _ _ s
  refine wpAny_bind (tupleItemsOf_ ht ?_)
  refine wpAny_bind (wpAny_typeOf hTs ?_)
  rw [if_pos (by decide)]
  refine wpAny_bind (sliceApplied_rev (n := items.size) hs ?_)
  have hno : ¬ ((((items.size : Nat) : Int) - 1 == 0 && (-1 : Int) == 1 && items.size == items.size) = true) := by
    have : ((-1 : Int) == 1) = false := by decide
    rw [this]; simp
  show wpAny _ _ (if (((items.size : Nat) : Int) - 1 == 0 && (-1 : Int) == 1 && items.size == items.size) = true then _ else _) _ _ s
  rw [if_neg hno, pick_rev items]
  first
    | exact wpAny_bind (m := Builtin.Tuple.tupleExact _) (wpAny_newObj_type (wpAny_pure ⟨_, rfl, wpAny_pure h⟩) hdrop)
    | exact wpAny_bind (m := Builtin.Tuple.tupleExact _) (wpAny_newObj_type (wpAny_bind (wpAny_pure (wpAny_pure ⟨_, rfl, wpAny_pure h⟩))) hdrop)
    | exact wpAny_bind (wpAny_bind (m := Builtin.Tuple.tupleExact _) (wpAny_newObj_type (wpAny_pure (wpAny_pure ⟨_, rfl, wpAny_pure h⟩)) hdrop))
    | exact wpAny_bind (wpAny_bind (m := Builtin.Tuple.tupleExact _) (wpAny_newObj_type (wpAny_pure ⟨_, rfl, wpAny_pure h⟩) hdrop))
end

section
variable {prog : Program} {w : World} {A : Around} {E : Value → Shared → Prop} {s : Shared} {h₀ : Heap} {L : Addr} {m : Str → Option Value} {news : List (Addr × Obj)}
theorem tup_rev {value slice : PySem.Expr} {t : Addr} {vs zs : List Value} {n : Nat} {u : Tok} {ops : List Value} {Q : Value → Shared → Prop}
    (F : Fr h₀ L s.heap m) (N : News h₀ L s.heap news) (hm : (t, ({ cls := .type "tuple", data := .seq vs.toArray n } : Obj)) ∈ news) (e : vs.reverse = zs)
    (h : ∀ D h', Fr h₀ L h' m → News h₀ L h' ((D, ({ cls := .type "tuple", data := .seq zs.toArray } : Obj)) :: news) → (∀ p ∈ news, p.1 < D) → Q (.ref D) { s with heap := h' })
    (hs : subscripted slice false (.ref t) (.ref s.heap.objs.size) = operate ops (getItem (.ref t) (.ref s.heap.objs.size)))
    (hg : ∀ r, letTemporaryGo value (.ref t) r = pure ())
    (hsz : vs.length ≤ 1000) :
    wpAny (model prog w) A (subscriptTail value slice (.ref t) (.ref s.heap.objs.size)) Q E { s with heap := s.heap.push { cls := .type "slice", data := .fields #[.none, .none, .int (-1) u] } } := by
  subst e
  have ht : IsTup s.heap t vs.toArray := News.isTup N hm
  have ht' : IsTup (s.heap.push { cls := .type "slice", data := .fields #[.none, .none, .int (-1) u] }) t vs.toArray := ht.keeps fun _ _ e => Heap.get?_push_of_some _ e
  refine subscriptTail_ops (s := { s with heap := s.heap.push { cls := .type "slice", data := .fields #[.none, .none, .int (-1) u] } }) ht'.typeIs slot_tuple_getitem.lookup
    (getItem_tuple_rev ht' (Heap.IsSliceOf.new ..) ?_ (by rw [sizeLine_eq, List.size_toArray]; omega)) hs hg
  have N1 := News.push (F.push { cls := .type "slice", data := .fields #[.none, .none, .int (-1) u] }) (N.grown fun _ _ e => Heap.get?_push_of_some _ e) { cls := .type "tuple", data := .seq vs.reverse.toArray }
  rw [Heap.size_push] at N1
  show Q (.ref (s.heap.push _).objs.size) _
  rw [Heap.size_push]
  exact h _ _ ((F.push _).push _) N1 fun p hp => Nat.lt_succ_of_lt (Heap.lt_size (N p hp).1)
theorem tup_from {value slice : PySem.Expr} {t : Addr} {vs zs : List Value} {n : Nat} {a : Int} {u : Tok} {Q : Value → Shared → Prop}
    (F : Fr h₀ L s.heap m) (N : News h₀ L s.heap news) (hm : (t, ({ cls := .type "tuple", data := .seq vs.toArray n } : Obj)) ∈ news) (h1 : 1 ≤ a) (ha : a.toNat ≤ vs.length) (e : vs.drop a.toNat = zs)
    (h : ∀ D h', Fr h₀ L h' m → News h₀ L h' ((D, ({ cls := .type "tuple", data := .seq zs.toArray } : Obj)) :: news) → (∀ p ∈ news, p.1 < D) → Q (.ref D) { s with heap := h' })
    (hs : subscripted slice false (.ref t) (.ref s.heap.objs.size) = operate [.ref s.heap.objs.size, .ref t] (getItem (.ref t) (.ref s.heap.objs.size)))
    (hg : ∀ r, letTemporaryGo value (.ref t) r = pure ())
    (hsz : vs.length ≤ 1000) :
    wpAny (model prog w) A (subscriptTail value slice (.ref t) (.ref s.heap.objs.size)) Q E { s with heap := s.heap.push { cls := .type "slice", data := .fields #[.int a u, .none, .none] } } := by
  subst e
  have ea : a = ((a.toNat : Nat) : Int) := by omega
  rw [ea]
  exact slice_tuple_from F N (News.isTup N hm) (by omega) (by simpa using ha) (fun h' F' N' => h _ h' F' N' fun p hp => Nat.lt_succ_of_lt (Heap.lt_size (N p hp).1)) hs hg (by rw [sizeLine_eq, List.size_toArray]; omega)
end

/-! ## data of any length -/
def LenOk (n : Nat) : Prop := n ≤ 60
theorem LenOk.le {n : Nat} (h : LenOk n) : n ≤ 1000 := Nat.le_trans h (by decide)
theorem dall_rev {n : Led} : ∀ {vs : List Value} {ds : List Dat}, DatAll n vs ds → DatAll n vs.reverse ds.reverse
  | _, _, .nil => .nil
  | _, _, .cons h r => by
    rw [List.reverse_cons, List.reverse_cons]
    exact DatAll.append (dall_rev r) (DatAll.one h)
theorem lst_open {n : Led} {v : Value} {ds : List Dat} (h : DatIn n v (.list ds)) : ∃ a k vs, v = .ref a ∧ (a, W.listOf (List.toArray vs) k) ∈ n ∧ DatAll n vs ds := by
  cases h with
  | list hm r => exact ⟨_, _, _, rfl, hm, r⟩
theorem cvd_open {n : Led} {v : Value} {l : List Pt} (h : DatIn n v (cvd l)) : ∃ a k vs, v = .ref a ∧ (a, ({ cls := .type "tuple", data := .seq (List.toArray vs) k } : Obj)) ∈ n ∧ DatAll n vs (l.map pd) ∧ vs.length = l.length := by
  obtain ⟨a, k, vs, e, hm, r⟩ := tup_open h
  exact ⟨a, k, vs, e, hm, r, by rw [r.length, List.length_map]⟩
theorem cvd_openC {n : Led} {v : Value} {p : Pt} {l : List Pt} (h : DatIn n v (cvd (p :: l))) : ∃ a k v0 vr, v = .ref a ∧ (a, ({ cls := .type "tuple", data := .seq (List.toArray (v0 :: vr)) k } : Obj)) ∈ n ∧ DatIn n v0 (pd p) ∧ DatAll n vr (l.map pd) ∧ vr.length = l.length := by
  obtain ⟨a, k, vs, rfl, hm, r, hl⟩ := cvd_open h
  obtain ⟨v0, vr, rfl, h0, h1⟩ := dall_cons r
  exact ⟨a, k, v0, vr, rfl, hm, h0, h1, by simpa using hl⟩
section
variable {prog : Program} {w : World} {A : Around} {E : Value → Shared → Prop} {s : Shared} {h₀ : Heap} {L : Addr} {m : Str → Option Value} {news : List (Addr × Obj)}
theorem tup_tail {value slice : PySem.Expr} {t : Addr} {v0 : Value} {vs : List Value} {n : Nat} {u : Tok} {Q : Value → Shared → Prop}
    (F : Fr h₀ L s.heap m) (N : News h₀ L s.heap news) (hm : (t, ({ cls := .type "tuple", data := .seq (v0 :: vs).toArray n } : Obj)) ∈ news)
    (h : ∀ D h', Fr h₀ L h' m → News h₀ L h' ((D, ({ cls := .type "tuple", data := .seq vs.toArray } : Obj)) :: news) → (∀ p ∈ news, p.1 < D) → Q (.ref D) { s with heap := h' })
    (hs : subscripted slice false (.ref t) (.ref s.heap.objs.size) = operate [.ref s.heap.objs.size, .ref t] (getItem (.ref t) (.ref s.heap.objs.size)))
    (hg : ∀ r, letTemporaryGo value (.ref t) r = pure ())
    (hsz : (v0 :: vs).length ≤ 1000) :
    wpAny (model prog w) A (subscriptTail value slice (.ref t) (.ref s.heap.objs.size)) Q E { s with heap := s.heap.push { cls := .type "slice", data := .fields #[.int 1 u, .none, .none] } } :=
  tup_from F N hm (by decide) (by simp) rfl h hs hg hsz
theorem item_tup0 {value slice : PySem.Expr} {a : Addr} {v : Value} {vs : List Value} {n : Nat} {u : Tok} {Q : Value → Shared → Prop} (N : News h₀ L s.heap news) (hm : (a, ({ cls := .type "tuple", data := .seq (v :: vs).toArray n } : Obj)) ∈ news) (h : Q v s)
    (hs : subscripted slice false (.ref a) (.int 0 u) = operate [.ref a, .int 0 u] (getItem (.ref a) (.int 0 u)) := by with_unfolding_all rfl) :
    wpAny (model prog w) A (subscriptTail value slice (.ref a) (.int 0 u)) Q E s :=
  item_tupleT (j := 0) (News.isTup N hm) (by decide) (by decide) (by rw [List.length_cons]; exact seq0 _) rfl h hs
theorem item_tup0S {value slice : PySem.Expr} {a : Addr} {o : Obj} {src : Led} {v : Value} {vs : List Value} {n : Nat} {u : Tok} {Q : Value → Shared → Prop} (N : News h₀ L s.heap news) (hm : (a, o) ∈ src) (e : o = { cls := .type "tuple", data := .seq (v :: vs).toArray n }) (hsub : ∀ p ∈ src, p ∈ news) (h : Q v s)
    (hs : subscripted slice false (.ref a) (.int 0 u) = operate [.ref a, .int 0 u] (getItem (.ref a) (.int 0 u)) := by with_unfolding_all rfl) :
    wpAny (model prog w) A (subscriptTail value slice (.ref a) (.int 0 u)) Q E s := item_tup0 N (hsub _ (e ▸ hm)) h hs
end
theorem reg4 : True := by
  k_with_none
  k_with "kcj_q" => first
    | exact List.mem_cons_self
    | (refine List.mem_cons_of_mem _ ?_; k_extra "kcj_q")
    | (refine List.mem_append.mpr (Or.inr ?_); k_extra "kcj_q")
    | (refine List.mem_append.mpr (Or.inl ?_); k_extra "kcj_q")
    | assumption
    | exact sub_use (by assumption) (by assumption)
  k_with "kd_suf" => first
    | with_reducible exact fun _ h => h
    | (refine sub_cons ?_; k_extra "kd_suf")
    | (refine sub_appR ?_; k_extra "kd_suf")
  k_with "kd_subs" => first
    | k_extra "kd_suf"
    | exact List.forall_mem_nil _
    | assumption
    | (refine List.forall_mem_cons.mpr ⟨?_, ?_⟩; (focus k_extra "kcj_q"); kd_subs)
    | (refine List.forall_mem_append.mpr ⟨?_, ?_⟩; (focus kd_subs); kd_subs)
    | (refine sub_cons ?_; kd_subs)
    | (refine sub_appR ?_; kd_subs)
    | (refine sub_appL ?_; kd_subs)
  k_with "ktn_lt" => first | assumption | exact allLt_of (by assumption) | exact alt1 (by assumption) | exact alt2 (by assumption) | exact alt3 (by assumption) | exact alt4 (by assumption) | exact alt5 (by assumption) | exact alt6 (by assumption)
  k_with "ktn_ord" => first
    | exact Ord.nil
    | assumption
    | (refine Ord.app ?_ ?_ <;> ktn_ord)
    | (refine Ord.lt (by ktn_lt) ?_ ?_; (focus kcj_in); ktn_ord)
    | (refine Ord.le (by ktn_lt) ?_ (by omega) ?_; (focus kcj_in); ktn_ord)
    | (refine Ord.sub (by assumption) ?_; kcj_in)
  k_with "ktr_rel" => first | assumption | (refine DatIn.mono ?_ (by assumption); kd_subs)
  k_with "ktr_enter" => first
    | (refine' code_def (by k_asm) (by k_asm) (by k_asm) (by k_asm) (by k_asm) rfl rfl (by first | assumption | exact rfl) (by k_is) (by k_is) (by k_extra "my room") (by first | exact BindsTo.of_eq rfl | exact binds_K (by k_in) rfl (by k_is) rfl rfl rfl | fail "no rule for these arguments") (locs rfl) ?_ rfl rfl rfl (by decide); k_whole; intro g' L' h' FG' F' N' B' X' T'; (try dsimp only); (try k_fold))
    | (refine' code_defC (by k_asm) (by k_asm) (by k_asm) (by k_asm) (by k_asm) rfl rfl (by first | assumption | exact rfl) (by k_is) (by k_is) (by k_extra "my room") (by first | exact BindsTo.of_eq rfl | exact binds_K (by k_in) rfl (by k_is) rfl rfl rfl | fail "no rule for these arguments") rfl (by decide +kernel) ?_ rfl rfl rfl; k_whole; intro g' L' h' tk' cells' FG' F' N' Y' B' X' T' l1; (try k_lt l1); k_cells Y'; (try simp only [List.cons_append, List.nil_append] at N'); (try dsimp only); (try k_fold))
  k_with "my gend" => (refine' gend (by assumption) (by assumption) (by assumption) (by repeat' (first | exact Split.base0 | refine' Split.skip ?_ | refine' Split.appO (by assumption) ?_ | refine' Split.own ?_)) (by ktn_ord) ?_)
  k_with "my end0" => (refine' gend0 (by assumption) (by assumption) (by assumption) (by kd_subs) ?_; (try unfold Says))
  k_with "my dats" => first | exact DatAll.nil | assumption | (refine DatAll.mono ?_ (by assumption); kd_subs) | (refine DatAll.cons ?_ ?_; (focus k_extra "my dat"); k_extra "my dats")
  k_with "my dat" => first
    | exact DatIn.int _ _
    | assumption
    | (refine DatIn.mono ?_ (by assumption); kd_subs)
    | exact DatIn.tuple (by k_extra "kcj_q") (by k_extra "my dats")
    | exact DatIn.list (by k_extra "kcj_q") (by k_extra "my dats")
  k_with "my rel" => (refine DatIn.mono ?_ (by assumption); kd_subs)
  k_with "my room" => first | exact room1 (by assumption) (by exact rfl) | exact room0 (by assumption) (by exact rfl) | ktr_room
  k_with "my units" => first | exact units1 (by assumption) (by exact rfl) | exact units0 (by assumption) (by exact rfl) | ktr_units
  k_with "my ne" => first | exact ne_gtR (by assumption) (by k_extra "kcj_q") | exact ne_ltR (by assumption) (by k_extra "kcj_q") | k_ne
  k_with "newTuple" => (k_here; k_dflt (refine' kup_newTuple (by k_asm) (by k_asm) ?_ (by kmk_size)); intro D' h' F' N' l1; (try k_sweep))
  k_with "newList" => (k_here; k_dflt (refine' newList_K (by k_asm) (by k_asm) ?_ (by size_fits)); intro l' h' F' N' l1; (try k_sweep))
  k_with "my evv" => first
    | ((with_reducible show Ev _ _ _ _ _ (PySem.Expr.Name _ _) _); exact ev_name (by k_asm) (by exact rfl) (by exact rfl) (by exact rfl) (by decide))
    | ((with_reducible show Ev _ _ _ _ _ (PySem.Expr.Subscript _ (PySem.Expr.Constant _ _ _) _) _); exact ev_item (by k_asm) (by k_extra "my evv") (by k_extra "kcj_q") (by decide) (by exact rfl) (by exact rfl))
  k_with "my ev" => first
    | ((with_reducible show Ev _ _ _ _ _ (PySem.Expr.Constant _ _ _) _); exact ev_int)
    | ((with_reducible show Ev _ _ _ _ _ (PySem.Expr.Name _ _) _); exact ev_nameI (by k_asm) (by exact rfl) (by exact rfl) (by exact rfl) (by decide))
    | ((with_reducible show Ev _ _ _ _ _ (PySem.Expr.Subscript _ (PySem.Expr.Constant _ _ _) _) _); exact ev_itemI (by k_asm) (by k_extra "my evv") (by k_extra "kcj_q") (by decide) (by exact rfl) (by exact rfl))
    | ((with_reducible show Ev _ _ _ _ _ (PySem.Expr.BinOp _ PySem.Operator.Mult _ _) _); exact ev_mul (by k_extra "my ev") (by k_extra "my ev") (by mul_fits))
    | ((with_reducible show Ev _ _ _ _ _ (PySem.Expr.BinOp _ PySem.Operator.Add _ _) _); exact ev_add (by k_extra "my ev") (by k_extra "my ev"))
    | ((with_reducible show Ev _ _ _ _ _ (PySem.Expr.BinOp _ PySem.Operator.Sub _ _) _); exact ev_sub (by k_extra "my ev") (by k_extra "my ev"))
    | ((with_reducible show Ev _ _ _ _ _ (PySem.Expr.UnaryOp PySem.UnaryOp.USub _ _) _); exact ev_neg (by k_extra "my ev"))
  k_with "eval BinOp" => (k_here; k_dflt (refine' ev_runI (by k_extra "my ev") ?_); intro t' tk'; (try dsimp only))
  k_with "eval UnaryOp" => (k_here; (with_reducible show wpAny _ _ (eval (PySem.Expr.UnaryOp _ (PySem.Expr.Subscript _ _ _) _) _) _ _ _); k_dflt (refine' ev_runI (by k_extra "my ev") ?_); intro t' tk'; (try dsimp only))
  k_with "eval Subscript" => (k_here; k_dflt (refine' ev_runV (by k_extra "my evv") ?_); intro tk'; (try dsimp only))
  k_with "my bit" => first | assumption | exact Bd.nu (by assumption) | exact Bd.de (by assumption) | (k_dflt (first | exact bp_nx (by assumption) | exact bp_dx (by assumption) | exact bp_ny (by assumption) | exact bp_dy (by assumption)))
  k_with "my lit" => first
    | ((with_reducible show LitD (PySem.Expr.Constant (PySem.Const.int _) _ _) _); exact lit_int)
    | ((with_reducible show LitD (PySem.Expr.Constant (PySem.Const.str _) _ _) _); exact lit_str)
    | ((with_reducible show LitD (PySem.Expr.UnaryOp PySem.UnaryOp.USub (PySem.Expr.Constant (PySem.Const.int _) _ _) _) _); exact lit_neg)
    | ((with_reducible show LitD (PySem.Expr.Tuple _ _ _) _); exact lit_tuple (by k_extra "my lits") (by exact Nat.le_of_ble_eq_true rfl))
    | ((with_reducible show LitD (PySem.Expr.List _ _) _); exact lit_list (by k_extra "my lits") (by exact Nat.le_of_ble_eq_true rfl))
  k_with "my lits" => first
    | ((with_reducible show LitA [] _); exact litA_nil)
    | ((with_reducible show LitA (_ :: _) _); exact litA_cons (by k_extra "my lit") (by k_extra "my lits"))
  k_with "my dvs" => first
    | ((with_reducible show DvA _ _ _ _ _ _ _ _ [] _); exact dvA_nil)
    | ((with_reducible show DvA _ _ _ _ _ _ _ _ (_ :: _) _); exact dvA_cons (by k_extra "my dv") (by k_extra "my dvs"))
  k_with "my dv" => first
    | ((with_reducible show Dv _ _ _ _ _ _ _ _ (PySem.Expr.Name _ _) _); exact dv_name (by exact rfl) (by k_extra "my dat") (by exact rfl) (by exact rfl) (by decide))
    | ((with_reducible show Dv _ _ _ _ _ _ _ _ (PySem.Expr.Constant _ _ _) _); exact dv_lit (by k_extra "my lit"))
    | ((with_reducible show Dv _ _ _ _ _ _ _ _ (PySem.Expr.Subscript _ (PySem.Expr.Constant _ _ _) _) _); first | exact dv_item (by k_extra "my dv") (by decide) (by exact rfl) (by exact rfl) | exact dv_item0 (by k_extra "my dv"))
    | ((with_reducible show Dv _ _ _ _ _ _ _ _ (PySem.Expr.Tuple _ _ _) _); first | exact dv_lit (by k_extra "my lit") | exact dv_tuple (by k_extra "my dvs") (by exact Nat.le_of_ble_eq_true rfl))
    | ((with_reducible show Dv _ _ _ _ _ _ _ _ (PySem.Expr.List _ _) _); exact dv_lit (by k_extra "my lit"))
    | ((with_reducible show Dv _ _ _ _ _ _ _ _ (PySem.Expr.BinOp _ PySem.Operator.Mult _ _) _); exact dv_mul (by k_extra "my dv") (by k_extra "my dv") (by mul_fits))
    | ((with_reducible show Dv _ _ _ _ _ _ _ _ (PySem.Expr.BinOp _ PySem.Operator.Add _ _) _); exact dv_add (by k_extra "my dv") (by k_extra "my dv"))
    | ((with_reducible show Dv _ _ _ _ _ _ _ _ (PySem.Expr.BinOp _ PySem.Operator.Sub _ _) _); exact dv_sub (by k_extra "my dv") (by k_extra "my dv"))
    | ((with_reducible show Dv _ _ _ _ _ _ _ _ (PySem.Expr.UnaryOp PySem.UnaryOp.USub _ _) _); exact dv_neg (by k_extra "my dv"))
    | ((with_reducible show Dv _ _ _ _ _ _ _ _ (PySem.Expr.Call _ _ _ _) _); exact dv_call (by k_asm) (by k_asm) (by k_asm) (by exact rfl) (by k_extra "my fn") (by k_is) (by exact rfl) (by k_extra "my dv") (by k_extra "my dvs") (by exact rfl) (by k_extra "my con") (by k_extra "my room") (by k_extra "my units"))
  k_with "eval Call" => (k_here; k_dflt (refine Wq.out ?_; refine' dv_runB (by assumption) (by k_asm) (by k_asm) (by kd_subs) (by kd_subs) (by k_extra "my dv") ?_); intro v9 t9 h9 tk9 F9 N9 O9 D9; (have hB9 := baseOf (by assumption) D9); (try k_dflt (k_extra "my got")); (try k_sweep))
  k_with "eval Tuple" => (k_here; k_dflt (refine Wq.out ?_; refine' dv_runB (by assumption) (by k_asm) (by k_asm) (by kd_subs) (by kd_subs) (by k_extra "my dv") ?_); intro v9 t9 h9 tk9 F9 N9 O9 D9; (have hB9 := baseOf (by assumption) D9); (try k_dflt (k_extra "my got")); (try k_sweep))
  k_with "eval List" => (k_here; k_dflt (refine Wq.out ?_; refine' dv_runB (by assumption) (by k_asm) (by k_asm) (by kd_subs) (by kd_subs) (by k_extra "my dv") ?_); intro v9 t9 h9 tk9 F9 N9 O9 D9; (have hB9 := baseOf (by assumption) D9); (try k_dflt (k_extra "my got")); (try k_sweep))
  k_with "exec Assign" => (k_here; (with_reducible show wpAny _ _ (exec (PySem.Stmt.Assign [PySem.Expr.Tuple [PySem.Expr.Name _ _, PySem.Expr.Name _ _] _ _] _ _) _) _ _ _); k_dflt (refine Wq.out ?_; refine' dv_pair (by assumption) (by k_asm) (by k_asm) (by kd_subs) (by kd_subs) (by k_extra "my dv") (by with_unfolding_all rfl) (by exact rfl) (by exact rfl) (by exact rfl) (by exact rfl) (by exact rfl) ?_); intro vx9 vy9 t9 h9 tk9 F9 N9 O9 D9 E9; (have hB9 := baseOf (by assumption) D9); (try k_sweep))
  k_with "exec Return some" => (k_here; k_dflt (refine Wq.out ?_; refine' dv_ret (by assumption) (by k_asm) (by k_asm) (by kd_subs) (by kd_subs) (by k_extra "my dv") ?_); intro v9 t9 h9 tk9 F9 N9 O9 D9; (try k_sweep))
  k_with "exec Assign" => (k_here; (with_reducible show wpAny _ _ (exec (PySem.Stmt.Assign [PySem.Expr.Name _ _] _ _) _) _ _ _); k_dflt (refine Wq.out ?_; refine' dv_set (by assumption) (by k_asm) (by k_asm) (by kd_subs) (by kd_subs) (by k_extra "my dv") (by exact rfl) (by exact rfl) (by exact rfl) ?_); intro v9 t9 h9 tk9 F9 N9 O9 D9; (have hB9 := baseOf (by assumption) D9); (try k_dflt (k_extra "my got")); (try k_sweep))
  k_with "my fn" => first
    | ((with_reducible show FnAt _ _ _ _ _ (compEnvC _ _ _ _) _ _); exact fnC (by k_asm) (by k_asm) (by k_is) (by exact rfl) (by exact rfl) (by exact rfl) (by decide))
    | exact fnX (by k_asm) (by k_asm) (by exact rfl) (by k_is) (by exact rfl) (by decide)
  k_with "subscriptTail Name Slice ref ref" => (k_here; (with_reducible show wpAny _ _ (subscriptTail _ (PySem.Expr.Slice none none (some _) _) (Value.ref _) (Value.ref _)) _ _ _); k_dflt (refine' tup_rev (by k_asm) (by k_asm) (by k_mem) rfl ?_ (by with_unfolding_all rfl) (by kmk_pure) (by first | exact Nat.le_of_ble_eq_true rfl | exact LenOk.le (by assumption))); intro D' h' F' N' l1; (try k_sweep))
  k_with "subscriptTail Name Slice ref ref" => (k_here; (with_reducible show wpAny _ _ (subscriptTail _ (PySem.Expr.Slice (some _) none none _) (Value.ref _) (Value.ref _)) _ _ _); k_dflt (refine' tup_tail (by k_asm) (by k_asm) (by k_mem) ?_ (by with_unfolding_all rfl) (by kmk_pure) (by first | exact Nat.le_of_ble_eq_true rfl | exact LenOk.le (by assumption))); intro D' h' F' N' l1; (try k_sweep))
  k_with "exec For" => (k_here; (rename Fr _ _ _ _ => lF'); (with_unfolding_all refine' For_turns lF' ?_; k_whole))
  k_with "exec For Name Subscript cons nil" => (k_here; (rename Fr _ _ _ _ => lF'); (with_unfolding_all refine' For_turns lF' ?_; k_whole))
  k_with "exec For Tuple Call cons nil" => (k_here; (rename Fr _ _ _ _ => lF'); (with_unfolding_all refine' For_turns lF' ?_; k_whole))
  k_with "exec For Name Call cons nil" => (k_here; (rename Fr _ _ _ _ => lF'); (with_unfolding_all refine' For_turns lF' ?_; k_whole))
  k_with "exec For Name Call cons cons" => (k_here; (rename Fr _ _ _ _ => lF'); (with_unfolding_all refine' For_turns lF' ?_; k_whole))
  k_with "pyIter ref" => (k_here; (with_reducible show wpAny _ _ (pyIter (Value.ref _)) (fun it s₂ => TurnsAt _ _ _ _ _ _ _ _ _ it s₂) _ _); k_dflt (refine' for_tup (by with_unfolding_all rfl) (by k_asm) (by k_asm) (by k_mem) rfl rfl ?_); (try dsimp only [List.map_cons, List.map_nil]))
  k_with "PRest" => first
    | (refine PRest.succ ?_; intro t' own' h' tk' F' N'; (try simp only [bindB] at F'); (try k_sweep); (try k_fold))
    | (refine PRest.zero ?_; intro h' tk' F' N'; (try k_sweep))
  k_with "TPost" => first | (dsimp only [TPost]) | (refine TPost.ret ?_; (try dsimp only)) | (refine TPost.next ?_) | (refine TPost.cont ?_)
  k_with "TEnd" => (refine TEnd.intro (by k_asm) (by k_asm) (by kd_subs) ?_)
  k_with "my bits" => first | k_extra "my bit" | exact Bits.mul (by k_extra "my bits") (by k_extra "my bits") | exact Bits.add (by k_extra "my bits") (by k_extra "my bits") | exact Bits.sub (by k_extra "my bits") (by k_extra "my bits") | exact Bits.neg (by k_extra "my bits") | exact Bits.lit (by decide)
  k_with "my bitsle" => exact Bits.mono (by k_extra "my bits") (by decide)
  k_with "mul_fits" => first | (refine Bits.ok (n := 8000) (m := 8000) ?_ ?_ (by decide) <;> assumption) | (refine Bits.ok (by k_extra "my bits") (by k_extra "my bits") (by decide))
  k_with "call type:zip" => (k_here; (with_reducible show wpAny _ _ (call (Value.type _) [Value.ref _, Value.ref _, Value.ref _]) (fun xv s₁ => wpAny _ _ (pyIter xv) (fun it s₂ => TurnsAt _ _ _ _ _ _ _ _ _ it s₂) _ s₁) _ _); k_dflt (refine' for_zip3 (by with_unfolding_all rfl) (by k_asm) (by k_asm) (by k_mem) (by k_mem) (by k_mem) (by exact rfl) (by exact rfl) rfl rfl rfl rfl ?_); (try dsimp only [trip3]))
  k_with "call type:tuple" => (k_here; (with_reducible show wpAny _ _ (call (Value.type _) [Value.ref _]) _ _ _); k_dflt (refine' call_tuple_tup (News.isTup (by k_asm) (by k_mem)) ?_))
  k_with "eval ListComp" => (k_here; (rename Fr _ _ _ _ => lF'); k_dflt (refine' comp_eval lF' rfl (by decide) rfl (by decide) ?_ (by intro _; rfl)))
  k_with "exec Assign cons ListComp" => (k_here; (rename Fr _ _ _ _ => lF'); k_dflt (refine' comp_assign lF' rfl rfl (by decide) rfl (by decide) rfl rfl ?_ (by intro _; rfl)))
  k_with "k_all" => first
    | exact List.forall_mem_nil _
    | assumption
    | (refine' List.forall_mem_cons.mpr ⟨?_, ?_⟩; (focus first | k_extra "my ne" | assumption | exact ne_gt (by ktn_lt) (by k_extra "kcj_q") | exact ne_lt (by ktn_lt) (by k_extra "kcj_q")); k_all)
    | (refine' List.forall_mem_append.mpr ⟨?_, ?_⟩; (focus k_all); k_all)
    | exact off_gt (by assumption) (by k_extra "kcj_q")
    | exact off_leS (by assumption) (by omega)
    | exact off_le (by ktn_lt) (by kd_subs) (by omega)
  k_with "k_upd" => first | exact Upd.head (by k_all) | ((with_reducible show Upd _ _ _ (_ :: _) _); exact Upd.tail (by k_extra "my ne") (by k_upd)) | (refine' upd_app ?_ ?_; (focus k_all); k_upd)
  k_with "k_updF" => first | exact UpdF.head (by k_all) | ((with_reducible show UpdF _ _ (_ :: _) _); exact UpdF.tail (by k_extra "my ne") (by k_updF)) | (refine' updF_app ?_ ?_; (focus k_all); k_updF)
  k_with "k_mem" => k_extra "kcj_q"
  k_with "pyIter ref" => (k_here; (with_reducible show wpAny _ _ (pyIter (Value.ref _)) (fun it s₂ => CompAt _ _ _ _ _ _ _ _ _ _ _ _ _ it s₂) _ _); k_dflt (refine' comp_range (by with_unfolding_all rfl) (by assumption) (by first | rfl | decide | exact small_of (by assumption)) (by first | rfl | exact Int.toNat_of_nonneg (by decide) | exact size_of _) (by k_asm) (by k_asm) rfl rfl (by first | decide | exact Nat.le_of_ble_eq_true rfl | exact LenOk.le (by assumption)) ?_); intro I' s9 hs9; (obtain ⟨h9, e9⟩ := hs9); subst e9; (try simp only [List.range, List.range.loop, List.map_cons, List.map_nil]); (try k_sweep))
  k_with "pyIter ref" => (k_here; (with_reducible show wpAny _ _ (pyIter (Value.ref _)) (fun it s₂ => CompAt _ _ _ _ _ _ _ _ _ _ _ _ _ it s₂) _ _); k_dflt (refine' comp_list (by with_unfolding_all rfl) (by k_asm) (by k_asm) (by k_mem) rfl rfl (by first | exact Nat.le_of_ble_eq_true rfl | exact LenOk.le (by assumption)) ?_); intro I' s9 hs9; (obtain ⟨h9, e9⟩ := hs9); subst e9; (try simp only [List.map_cons, List.map_nil]); (try k_sweep))
  k_with "pyIter ref" => (k_here; (with_reducible show wpAny _ _ (pyIter (Value.ref _)) (fun it s₂ => CompAt _ _ _ _ _ _ _ _ _ _ _ _ _ it s₂) _ _); k_dflt (refine' comp_tup (by with_unfolding_all rfl) (by k_asm) (by k_asm) (by k_mem) rfl rfl (by first | exact Nat.le_of_ble_eq_true rfl | exact LenOk.le (by assumption)) ?_); intro I' s9 hs9; (obtain ⟨h9, e9⟩ := hs9); subst e9; (try simp only [List.map_cons, List.map_nil]); (try k_sweep))
  k_with "call type:zip" => (k_here; (with_reducible show wpAny _ _ (call (Value.type _) [Value.ref _, Value.ref _, Value.ref _]) (fun xv s₁ => wpAny _ _ (pyIter xv) (fun it s₂ => CompAt _ _ _ _ _ _ _ _ _ _ _ _ _ it s₂) _ s₁) _ _); k_dflt (refine' comp_zip3 (by with_unfolding_all rfl) (by k_asm) (by k_asm) (by k_mem) (by k_mem) (by k_mem) (by exact rfl) (by exact rfl) (by exact Nat.le_of_ble_eq_true rfl) rfl rfl rfl rfl (by decide) (by decide) (by decide) ?_); intro I' s9 hs9; (obtain ⟨h9, e9⟩ := hs9); subst e9; (try dsimp only [trip3]); (try k_sweep))
  k_with "CRest" => first
    | (refine CRest.zero ?_)
    | (refine CRest.plain ?_; intro t' own' C' oC' D' m' h' tk' E' hC' hx' F' N' off' wo'; (first | (obtain ⟨hx1, hx2, hx3, _⟩ := hx'; (try dsimp only at hx1 hx2 hx3)) | (obtain ⟨hx1, _⟩ := hx'; (try dsimp only at hx1))); (try k_sweep); (try k_fold))
    | (refine CRest.test ?_; intro t' own' C' oC' D' m' h' tk' E' hC' hx' F' N' off' wo'; (first | (obtain ⟨hx1, hx2, hx3, _⟩ := hx'; (try dsimp only at hx1 hx2 hx3)) | (obtain ⟨hx1, _⟩ := hx'; (try dsimp only at hx1))); (try k_sweep); (try k_fold))
  k_with "my coff" => first
    | exact coff_nil
    | assumption
    | (with_reducible refine' coff_e (by assumption) (by k_extra "kcj_q") ?_; k_extra "my coff")
    | (with_reducible refine' coff_consW (by assumption) (by ktn_lt) (by k_extra "kcj_q") (by k_extra "kcj_q") (by kd_subs) ?_; k_extra "my coff")
    | (with_reducible refine' coff_app ?_ ?_; (focus k_extra "my coff"); k_extra "my coff")
    | (with_reducible refine' coff_sub (by assumption) (by kd_subs))
    | (with_reducible refine' coff_ordW (by assumption) (by assumption) (by k_extra "kcj_q") (by k_extra "kcj_q") (by kd_subs))
  k_with "CEnd" => (k_dflt (refine' cend (by k_asm) (by k_asm) (by k_extra "kcj_q") (by k_extra "kcj_q") (by kd_subs) (by repeat' (first | exact CS.base | refine' CS.skip ?_)) (by k_extra "my coff") ?_); (try simp only [List.nil_append, List.cons_append]))
  k_with "FinC" => (unfold FinC; intro D' h' tk' F' N' o1' l1'; (try dsimp only [PyProof.Rows.LCg.lst, List.length_cons, List.length_nil] at N'); (try simp only [AllLt, and_true] at l1'); (try dsimp only))
  k_with "FinS" => (unfold FinS; intro D' h' tk' F' N' o1' l1'; (try dsimp only [PyProof.Rows.LCg.lst, List.length_cons, List.length_nil] at N'); (try simp only [AllLt, and_true] at l1'); (try dsimp only))
  k_with "my sub" => (k_here; (with_reducible show wpAny _ _ (subscriptTail _ _ (Value.ref _) (Value.int _ _)) _ _ _); k_dflt (first
    | ((with_reducible show wpAny _ _ (subscriptTail _ _ (Value.ref _) (Value.int 0 _)) _ _ _); first | refine' item_tup0 (by k_asm) (by k_extra "kcj_q") ?_ (by with_unfolding_all rfl) | refine' item_tup0S (by k_asm) (by assumption) (by exact rfl) (by kd_subs) ?_ (by with_unfolding_all rfl))
    | (refine' item_tupS (by k_asm) (by assumption) (by exact rfl) (by kd_subs) (by decide) (by decide) (by exact rfl) (by exact rfl) ?_ (by with_unfolding_all rfl))
    | (refine' item_lstS (by k_asm) (by assumption) (by exact rfl) (by kd_subs) (by decide) (by decide) (by exact rfl) ?_ (by with_unfolding_all rfl))
    | (refine' item_lstNS (by k_asm) (by assumption) (by exact rfl) (by kd_subs) (by decide) (by decide) (by exact rfl) (by exact rfl) ?_ (by with_unfolding_all rfl))
    | (refine' item_lst (by k_asm) (by k_extra "kcj_q") (by decide) (by decide) (by exact rfl) ?_ (by with_unfolding_all rfl))
    | (refine' item_lstN (by k_asm) (by k_extra "kcj_q") (by decide) (by decide) (by exact rfl) (by exact rfl) ?_ (by with_unfolding_all rfl))))
  k_with "subscriptTail" => k_extra "my sub"
  k_with "subscriptTail Name" => k_extra "my sub"
  k_with "subscriptTail Subscript" => k_extra "my sub"
  k_with "subscriptTail Name Constant ref int" => k_extra "my sub"
  k_with "subscriptTail Name Name ref int" => k_extra "my sub"
  k_with "subscriptTail Name BinOp ref int" => k_extra "my sub"
  k_with "subscriptTail Name UnaryOp ref int" => k_extra "my sub"
  trivial
set_option maxRecDepth 100000 in
set_option maxHeartbeats 8000000 in
theorem ct_rev {w : World} {mean : ExcName → Option Value} {mg mb : Str → Option Value} {news : Led} {vc : Value} {c : List Pt} (dc : DatIn news vc (cvd c)) (hl : LenOk c.length) :
    Gives w mean mg mb 2 120 news news [vc] (fun l r => DatIn l r (cvd c.reverse)) := by
  unfold Gives
  k_fill
  obtain ⟨cA, cn, vs, rfl, mc, dvs, hv⟩ := cvd_open dc
  have hv2 : LenOk vs.length := by rw [hv]; exact hl
  have hM := kdMark
  intro dp un gd cn cs a ccd cl outer A₀ base h₀ L m s nw Q E B F X N T hk hn hd hu hret
  replace mc := hn _ mc
  refine wpAny_call ?_
  k_dflt ktr_enter
  k_steps
  all_goals (refine gend hret (by assumption) (by assumption) (Split.skip Split.base0) (by ktn_ord) ?_)
  all_goals (show DatIn _ _ (Dat.tuple (c.reverse.map pd)))
  all_goals (rw [List.map_reverse]; exact DatIn.tuple (List.mem_append.mpr (.inr (.head _))) (DatAll.mono (fun _ h => List.mem_append.mpr (.inl h)) (dall_rev dvs)))
end
section
/-! ## loops and comprehensions over data of any length -/
/-- here the walk stops: the next step by hand -/
def StopW (p : Prop) : Prop := p
/-- markers: where they stand the walk stops at a comprehension's source, at a turn's end -/
structure StopC : Prop where
structure StopE : Prop where
structure StopT : Prop where
theorem stopW {p : Prop} (h : StopW p) : p := h
open PyProof.Rows.LCg (NsObj lst)
section
variable {prog : Program} {w : World} {A : Around} {E : Value → Shared → Prop} {s : Shared} {env : Env} {h₀ : Heap} {body : List Stmt} {Q : Flow → Shared → Prop} {L : Addr}
theorem TEnd.weak {s₁ s₂ : Shared} {own news : LedT} {r r' : (Str → Option Value) → Prop} (h : ∀ m, r m → r' m) (k : TEnd h₀ L s₁ own news r s₂) : TEnd h₀ L s₁ own news r' s₂ := by
  obtain ⟨h', tk, m', all, e, F, N, hs, x⟩ := k
  exact ⟨h', tk, m', all, e, F, N, hs, h _ x⟩
theorem TPost.weak {s₁ s₂ : Shared} {own news : LedT} {r r' : (Str → Option Value) → Prop} {f : Flow} (h : ∀ m, r m → r' m) (k : TPost h₀ L s₁ own news r Q f s₂) : TPost h₀ L s₁ own news r' Q f s₂ := by
  cases f with
  | ret v => exact k
  | brk => exact k
  | next => exact TEnd.weak h k
  | cont => exact TEnd.weak h k
theorem TPost.ret {s₁ s₂ : Shared} {own news : LedT} {r : (Str → Option Value) → Prop} {v : Value} (h : Q (.ret v) s₂) : TPost h₀ L s₁ own news r Q (.ret v) s₂ := h
theorem TPost.next {s₁ s₂ : Shared} {own news : LedT} {r : (Str → Option Value) → Prop} (h : TEnd h₀ L s₁ own news r s₂) : TPost h₀ L s₁ own news r Q .next s₂ := h
theorem TPost.cont {s₁ s₂ : Shared} {own news : LedT} {r : (Str → Option Value) → Prop} (h : TEnd h₀ L s₁ own news r s₂) : TPost h₀ L s₁ own news r Q .cont s₂ := h
/-- a for whose turns keep a word I of what is left and of the frame -/
theorem PRest.each {α : Type} {news : LedT} (I : List α → (Str → Option Value) → Prop) (bs : α → Tok → List (Str × Value)) (ok : α → Prop)
    (turn : ∀ a r m, ok a → I (a :: r) m → ∀ t own h tk, Fr h₀ env.locals h (bindB (bs a t) m) → News h₀ env.locals h (own ++ news) →
      wpAny (model prog w) A (execs body env) (TPost h₀ env.locals { s with heap := h, toks := tk } own news (I r) Q) E { s with heap := h, toks := tk })
    (last : ∀ m h tk, I [] m → Fr h₀ env.locals h m → News h₀ env.locals h news → Q .next { s with heap := h, toks := tk }) :
    ∀ (l : List α) (m : Str → Option Value), (∀ a ∈ l, ok a) → I l m → PRest prog w A E h₀ env body Q s news (l.map bs) m
  | [], m, _, hI => fun h tk F N => last m h tk hI F N
  | a :: l, m, ha, hI => fun t own h tk F N => by
    refine wpAny_mono (turn a l m (ha a (.head _)) hI t own h tk F N) (fun f s₂ k => ?_) fun _ _ e => e
    exact TPost.weak (fun m' hm => PRest.each I bs ok turn last l m' (fun b hb => ha b (.tail _ hb)) hm) k
end
/-- a value and the datum that it bears -/
def PV (n : Led) (e : Value × Pt) : Prop := DatIn n e.1 (pd e.2)
theorem pv_of {n : Led} : ∀ {vs : List Value} {l : List Pt}, DatAll n vs (l.map pd) → ∃ el : List (Value × Pt), el.map (·.1) = vs ∧ el.map (·.2) = l ∧ ∀ e ∈ el, PV n e
  | [], [], _ => ⟨[], rfl, rfl, fun _ h => nomatch h⟩
  | v :: vs, p :: l, h => by
    cases h with
    | cons h1 h2 =>
      obtain ⟨el, e1, e2, k⟩ := pv_of h2
      refine ⟨(v, p) :: el, by simp [e1], by simp [e2], fun e he => ?_⟩
      rcases List.mem_cons.mp he with rfl | he
      · exact h1
      · exact k e he
  | [], _ :: _, h => by cases h
  | _ :: _, [], h => by cases h
section
variable {prog : Program} {w : World} {A : Around} {s : Shared} {h₀ : Heap} {L : Addr} {m : Str → Option Value} {env : Env} {ct elt : PySem.Expr} {scope : Scope} {cl : List (Str × Addr)} {wr : Wr} {Fin : List Value → LedT → Prop}
/-- a comprehension without a test, whose turns may make things: I says what holds of the values so far -/
theorem CRest.each {α : Type} (I : List Value → List α → LedT → Prop) (bs : α → Tok → List (Str × Value)) (ok : α → Prop)
    (turn : ∀ a r ys news, ok a → I ys (a :: r) news → ∀ t own C oC D m₂ h tk (E' : Value → Shared → Prop), NsObj oC m₂ → Has m₂ (bs a t) → Fr h₀ L h m → News h₀ L h ((C, oC) :: (D, lst ys) :: (own ++ news)) → COff wr C D news → OwnW wr own →
        wpAny (model prog w) A (eval elt (compEnvC scope cl C env)) (CEnd h₀ L m { s with heap := h, toks := tk } wr own C oC D ys (fun y news' => I (ys ++ [y]) r news')) E' { s with heap := h, toks := tk })
    (last : ∀ ys news, I ys [] news → Fin ys news) :
    ∀ (l : List α) (ys : List Value) (news : LedT), (∀ a ∈ l, ok a) → I ys l news → CRest prog w A h₀ L m env [] elt scope cl s wr Fin (l.map bs) ys news
  | [], ys, news, _, hI => CRest.zero (last ys news hI)
  | a :: l, ys, news, ha, hI => by
    refine CRest.plain fun t own C oC D m₂ h tk E' k1 k2 k3 k4 k5 k6 => ?_
    refine wpAny_mono (turn a l ys news (ha a (.head _)) hI t own C oC D m₂ h tk E' k1 k2 k3 k4 k5 k6) (fun y s₂ hr => ?_) fun _ _ e => e
    obtain ⟨h₅, tk₅, news₅, e, F₅, N₅, off₅, hI'⟩ := hr
    exact ⟨h₅, tk₅, news₅, e, F₅, N₅, off₅, CRest.each I bs ok turn last l _ _ (fun b hb => ha b (.tail _ hb)) hI'⟩
end
section
variable {prog : Program} {w : World} {A : Around} {E : Value → Shared → Prop} {s : Shared} {env : Env} {h₀ : Heap} {body : List Stmt} {Q : Flow → Shared → Prop} {L : Addr}
/-- a for over a tuple of points -/
theorem PRest.pts {x : Str} {n₁ news : LedT} {vs : List Value} {l : List Pt} {m : Str → Option Value} (I : List Pt → (Str → Option Value) → Prop) (hd : DatAll n₁ vs (l.map pd)) (hI : I l m)
    (turn : ∀ v q r m, DatIn n₁ v (pd q) → q ∈ l → I (q :: r) m → ∀ own h tk, Fr h₀ env.locals h (bindB [(x, v)] m) → News h₀ env.locals h (own ++ news) →
      wpAny (model prog w) A (execs body env) (TPost h₀ env.locals { s with heap := h, toks := tk } own news (I r) Q) E { s with heap := h, toks := tk })
    (last : ∀ m h tk, I [] m → Fr h₀ env.locals h m → News h₀ env.locals h news → Q .next { s with heap := h, toks := tk }) :
    PRest prog w A E h₀ env body Q s news (vs.map fun v _ => [(x, v)]) m := by
  obtain ⟨el, rfl, rfl, k⟩ := pv_of hd
  have h := PRest.each (prog := prog) (w := w) (A := A) (E := E) (s := s) (env := env) (h₀ := h₀) (body := body) (Q := Q) (news := news) (α := Value × Pt) (fun r m => I (r.map Prod.snd) m) (fun e _ => [(x, e.1)]) (fun e => PV n₁ e ∧ e ∈ el)
    (fun e r m ok hI t own h tk F N => turn e.1 e.2 (r.map Prod.snd) m ok.1 (List.mem_map_of_mem ok.2) hI own h tk F N) (fun m h tk hI F N => last m h tk hI F N) el m (fun e he => ⟨k e he, he⟩) hI
  rw [List.map_map]
  exact h
/-- the same, the word over what is left alone: of the frame the loop's name is all that turns -/
theorem PRest.seek {x : Str} {n₁ news : LedT} {vs : List Value} {l : List Pt} {m : Str → Option Value} (P : List Pt → Prop) (hd : DatAll n₁ vs (l.map pd)) (hm : m x = none) (hP : P l)
    (turn : ∀ v q r, DatIn n₁ v (pd q) → q ∈ l → P (q :: r) → ∀ own h tk, Fr h₀ env.locals h (fun y => if y = x then some v else m y) → News h₀ env.locals h (own ++ news) →
      wpAny (model prog w) A (execs body env) (TPost h₀ env.locals { s with heap := h, toks := tk } own news (fun m' => P r ∧ m' = (fun y => if y = x then some v else m y)) Q) E { s with heap := h, toks := tk })
    (last : ∀ o h tk, P [] → Fr h₀ env.locals h (fun y => if y = x then o else m y) → News h₀ env.locals h news → Q .next { s with heap := h, toks := tk }) :
    PRest prog w A E h₀ env body Q s news (vs.map fun v _ => [(x, v)]) m := by
  refine PRest.pts (x := x) (fun r m' => P r ∧ ∃ o, m' = fun y => if y = x then o else m y) hd ⟨hP, none, ?_⟩ (fun v q r m' hv hq hI own h tk F N => ?_) fun m' h tk hI F N => ?_
  · funext y
    by_cases k : y = x
    · rw [if_pos k, k, hm]
    · rw [if_neg k]
  · obtain ⟨hp, o, rfl⟩ := hI
    have e : bindB [(x, v)] (fun y => if y = x then o else m y) = (fun y => if y = x then some v else m y) := by
      funext y
      by_cases k : y = x
      · simp [bindB, k]
      · simp [bindB, k]
    rw [e] at F
    refine wpAny_mono (turn v q r hv hq hp own h tk F N) (fun f s₂ k => ?_) fun _ _ e => e
    exact TPost.weak (fun m' hm => ⟨hm.1, _, hm.2⟩) k
  · obtain ⟨hp, o, rfl⟩ := hI
    exact last o h tk hp F N
end
section
variable {wr : Wr} {own big tl r : Led} {C D E : Addr} {oC oD o : Obj}
theorem coff_consW (h4 : OwnW wr own) (h : AllLt E big) (h1 : (C, oC) ∈ big) (h2 : (D, oD) ∈ big) (h3 : ∀ p ∈ own, p ∈ big) (k : COff wr C D r) : COff wr C D ((E, o) :: r) := coff_cons h h1 h2 h3 h4 k
theorem coff_ordW (h4 : OwnW wr own) (h : Ord big tl) (h1 : (C, oC) ∈ big) (h2 : (D, oD) ∈ big) (h3 : ∀ p ∈ own, p ∈ big) : COff wr C D tl := coff_ord h h1 h2 h3 h4
end
end
section
open PyProof.Rows.LCg (NsObj lst)
/-! ## comprehensions over data -/
section
variable {w : World} {A : Around} {env : Env} {h₀ : Heap} {L : Addr} {m : Str → Option Value} {aux base : Led} {scope : Scope} {cl : List (Str × Addr)} {x : Str} {eltE : PySem.Expr} {f : Dat → Dat} {ds : List Dat}
/-- what a turn's expression is to do -/
def EltOk (w : World) (A : Around) (env : Env) (h₀ : Heap) (L : Addr) (m : Str → Option Value) (aux base : Led) (scope : Scope) (cl : List (Str × Addr)) (x : Str) (eltE : PySem.Expr) (f : Dat → Dat) (ds : List Dat) : Prop :=
  ∀ (b2 : Led) (d : Dat) (v : Value) (C : Addr) (oC : Obj) (m₂ : Str → Option Value), (∀ p ∈ base, p ∈ b2) → d ∈ ds → NsObj oC m₂ → m₂ x = some v → DatIn b2 v d → Dv w A (compEnvC scope cl C env) h₀ L m ((C, oC) :: aux) b2 eltE (f d)
theorem crest_dv {s : Shared} {wr : Wr} {keep led : Led} {Fin : List Value → LedT → Prop} {vs : List Value} (r : DatAll keep vs ds) (ha : ∀ p ∈ aux, p ∈ led) (hb : ∀ p ∈ base, p ∈ keep) (hk : ∀ p ∈ keep, p ∈ led)
    (elt : EltOk w A env h₀ L m aux base scope cl x eltE f ds) (fin : ∀ ys t, Ord led t → DatAll (t ++ keep) ys (ds.map f) → Fin ys (t ++ led)) :
    CRest PG w A h₀ L m env [] eltE scope cl s wr Fin (vs.map fun v _ => [(x, v)]) [] led := by
  have key : ∀ (vs' : List Value) (ds' done : List Dat) (ys : List Value) (t : Led), DatAll keep vs' ds' → ds = done ++ ds' → Ord led t → DatAll (t ++ keep) ys (done.map f) →
      CRest PG w A h₀ L m env [] eltE scope cl s wr Fin (vs'.map fun v _ => [(x, v)]) ys (t ++ led) := by
    intro vs'
    induction vs' with
    | nil =>
      intro ds' done ys t r' e o D
      cases r'
      rw [List.append_nil] at e
      exact CRest.zero (fin ys t o (e ▸ D))
    | cons v vs' ih =>
      intro ds' done ys t r' e o D
      cases r' with
      | cons hv r' =>
        rename_i d ds'
        refine CRest.plain fun t0 own C oC X m₂ h tk E' k1 k2 k3 k4 k5 k6 => ?_
        refine (elt keep d v C oC m₂ hb (by rw [e]; exact List.mem_append.mpr (.inr (.head _))) k1 k2.1 hv).run (s := { s with heap := h, toks := tk }) k3 k4 ⟨fun p hp => ?_, fun p hp => .tail _ (.tail _ (List.mem_append.mpr (.inr (List.mem_append.mpr (.inr (hk p hp))))))⟩ fun y t9 h9 tk9 F9 N9 o9 D9 => ?_
        · rcases List.mem_cons.mp hp with rfl | hp
          · exact .head _
          · exact .tail _ (.tail _ (List.mem_append.mpr (.inr (List.mem_append.mpr (.inr (ha p hp))))))
        · refine CEnd.intro (news' := (t9 ++ t) ++ led) F9 N9 (fun p hp => ?_) (fun p hp => ?_) (ih ds' (done ++ [d]) (ys ++ [y]) (t9 ++ t) r' (by rw [e]; simp) (Ord.app (Ord.sub o9 fun p hp => .tail _ (.tail _ (List.mem_append.mpr (.inr (List.mem_append.mpr (.inr hp)))))) o) ?_)
          · rw [← List.cons_append, ← List.cons_append, ← List.append_assoc] at hp
            rcases List.mem_append.mp hp with hp | hp
            · rcases List.mem_append.mp hp with hp | hp
              · exact List.mem_append.mpr (.inr (by
                  rcases List.mem_cons.mp hp with rfl | hp
                  · exact .head _
                  rcases List.mem_cons.mp hp with rfl | hp
                  · exact .tail _ (.head _)
                  · exact .tail _ (.tail _ (List.mem_append.mpr (.inl hp)))))
              · rcases List.mem_append.mp hp with hp | hp
                · exact List.mem_append.mpr (.inl hp)
                · exact List.mem_append.mpr (.inr (.tail _ (.tail _ (List.mem_append.mpr (.inr (List.mem_append.mpr (.inl hp)))))))
            · exact List.mem_append.mpr (.inr (.tail _ (.tail _ (List.mem_append.mpr (.inr (List.mem_append.mpr (.inr hp)))))))
          · rcases List.mem_append.mp hp with hp | hp
            · rcases List.mem_append.mp hp with hp | hp
              · exact coff_ordW k6 o9 (.head _) (.tail _ (.head _)) (fun q hq => .tail _ (.tail _ (List.mem_append.mpr (.inl hq)))) p hp
              · exact k5 p (List.mem_append.mpr (.inl hp))
            · exact k5 p (List.mem_append.mpr (.inr hp))
          · rw [List.map_append]
            refine DatAll.append (D.mono fun p hp => ?_) (DatAll.one (D9.mono fun p hp => ?_))
            · rcases List.mem_append.mp hp with hp | hp
              · exact List.mem_append.mpr (.inl (List.mem_append.mpr (.inr hp)))
              · exact List.mem_append.mpr (.inr hp)
            · rcases List.mem_append.mp hp with hp | hp
              · exact List.mem_append.mpr (.inl (List.mem_append.mpr (.inl hp)))
              · exact List.mem_append.mpr (.inr hp)
  exact key vs ds [] [] [] r rfl Ord.nil .nil
theorem fin_dv {s : Shared} {Q : Value → Shared → Prop} {keep tl led : Led} {ds : List Dat} (ho : Ord led tl)
    (q : ∀ v tl h' tk, Fr h₀ L h' m → News h₀ L h' (tl ++ led) → Ord led tl → DatIn (tl ++ base) v (.list ds) → Q v { s with heap := h', toks := tk }) (ys : List Value) (t : Led) (o : Ord (tl ++ led) t) (D : DatAll (t ++ (tl ++ base)) ys ds) :
    FinC h₀ L m Q s (tl ++ led) ys (t ++ (tl ++ led)) := by
  intro X h' tk F' N' _ l1
  refine q (.ref X) ((X, lst ys) :: (t ++ tl)) h' tk F' (by rw [List.cons_append, List.append_assoc]; exact N') (Ord.cons (allLt_append.mp l1).2 (Ord.app (Ord.sub o fun p hp => List.mem_append.mpr (.inr hp)) ho)) ?_
  have D' : DatAll ((t ++ tl) ++ base) ys ds := by rw [List.append_assoc]; exact D
  exact DatIn.list (.head _) (D'.mono fun p hp => .tail _ hp)
theorem dv_compL {iter : PySem.Expr} {px pos : Pos} (hclos : closureFor scope env = pure cl) (hcell : ∀ y ∈ scope.names, y.2 ≠ .cell) (hkind : scope.kind = .function) (hnames : ∀ y ∈ scope.names, y.2 = .local → scope.names.lookup y.1 = some .local) (hx : scope.names.lookup x = some .local) (hh : A.handled = none)
    (src : Dv w A env h₀ L m aux base iter (.list ds)) (hl : ds.length ≤ 60) (hs : ∀ x, foldedSetIterable iter env x = pure x) (elt : EltOk w A env h₀ L m aux base scope cl x eltE f ds) :
    Dv w A env h₀ L m aux base (.ListComp eltE [⟨.Name x px, iter, [], 0⟩] scope pos) (.list (ds.map f)) := ⟨fun _ => rfl, fun {s Q E led} F N sb q => by
  refine comp_eval F hclos hcell hkind hnames (src.run F N sb fun u tl h' tk F' N' o D => ?_) hs
  obtain ⟨a, n, vs, rfl, hm, r⟩ := lst_open D
  have sub : ∀ p ∈ tl ++ base, p ∈ tl ++ led := fun p hp => (List.mem_append.mp hp).elim (fun h => List.mem_append.mpr (.inl h)) fun h => List.mem_append.mpr (.inr (sb.b p h))
  refine comp_list hh F' N' (sub _ hm) hkind hx (by rw [r.length]; exact Nat.le_trans hl (by decide)) fun I s₂ hs₂ => ?_
  obtain ⟨h₂, rfl⟩ := hs₂
  exact crest_dv r (fun p hp => List.mem_append.mpr (.inr (sb.a p hp))) (fun p hp => List.mem_append.mpr (.inr hp)) sub elt (fin_dv (keep := tl ++ base) o q)⟩
theorem dv_compT {iter : PySem.Expr} {px pos : Pos} (hclos : closureFor scope env = pure cl) (hcell : ∀ y ∈ scope.names, y.2 ≠ .cell) (hkind : scope.kind = .function) (hnames : ∀ y ∈ scope.names, y.2 = .local → scope.names.lookup y.1 = some .local) (hx : scope.names.lookup x = some .local) (hh : A.handled = none)
    (src : Dv w A env h₀ L m aux base iter (.tuple ds)) (hl : ds.length ≤ 60) (hs : ∀ x, foldedSetIterable iter env x = pure x) (elt : EltOk w A env h₀ L m aux base scope cl x eltE f ds) :
    Dv w A env h₀ L m aux base (.ListComp eltE [⟨.Name x px, iter, [], 0⟩] scope pos) (.list (ds.map f)) := ⟨fun _ => rfl, fun {s Q E led} F N sb q => by
  refine comp_eval F hclos hcell hkind hnames (src.run F N sb fun u tl h' tk F' N' o D => ?_) hs
  obtain ⟨a, n, vs, rfl, hm, r⟩ := tup_open D
  have sub : ∀ p ∈ tl ++ base, p ∈ tl ++ led := fun p hp => (List.mem_append.mp hp).elim (fun h => List.mem_append.mpr (.inl h)) fun h => List.mem_append.mpr (.inr (sb.b p h))
  refine comp_tup hh F' N' (sub _ hm) hkind hx (by rw [r.length]; exact Nat.le_trans hl (by decide)) fun I s₂ hs₂ => ?_
  obtain ⟨h₂, rfl⟩ := hs₂
  exact crest_dv r (fun p hp => List.mem_append.mpr (.inr (sb.a p hp))) (fun p hp => List.mem_append.mpr (.inr hp)) sub elt (fin_dv (keep := tl ++ base) o q)⟩
end
theorem dv_cname {w : World} {A : Around} {env : Env} {h₀ : Heap} {L : Addr} {m : Str → Option Value} {aux base : Led} {scope : Scope} {cl : List (Str × Addr)} {x : Str} {C : Addr} {oC : Obj} {m₂ : Str → Option Value} {v : Value} {d : Dat} {p : Pos} (hC : NsObj oC m₂) (hm : (C, oC) ∈ aux) (hx : m₂ x = some v) (hd : DatIn base v d)
    (hk : (compEnvC scope cl C env).scope.kind = .function) (hl : (compEnvC scope cl C env).kindOf x = some .local) (hb : (x == ("__debug__" : Str)) = false) : Dv w A (compEnvC scope cl C env) h₀ L m aux base (.Name x p) d :=
  ⟨fun _ => rfl, fun F N sb q => LCgL.ld_own N (sb.a _ hm) hC hx (q v [] _ _ F N Ord.nil hd) hk hl hb⟩
end
section
open PyProof.Rows.LCg (NsObj lst)
/-! ## steps over data of any length -/
def At (vs : List Value) (k : Int) (v : Value) : Prop := ∃ i : Nat, k = (i : Int) ∧ vs[i]? = some v
def LastV (vs : List Value) (v : Value) : Prop := ∃ us, vs = us ++ [v]
theorem lenok_small {n : Nat} (h : LenOk n) : (n : Int) < 2 ^ 63 := by unfold LenOk at h; omega
section
variable {prog : Program} {w : World} {A : Around} {E : Value → Shared → Prop} {s : Shared} {h₀ : Heap} {L : Addr} {m : Str → Option Value} {news : Led}
theorem at_lt {vs : List Value} {i : Nat} {v : Value} (h : vs[i]? = some v) : i < vs.length := (List.getElem?_eq_some_iff.mp h).1
theorem seq_at {n i : Nat} (h : i < n) : seqIndex? (i : Int) n = some i := by
  unfold seqIndex?
  have h1 : ¬ (i : Int) < 0 := by omega
  simp only [h1, if_false]
  have h2 : (decide ((0 : Int) ≤ (i : Int)) && decide ((i : Int) < (n : Int))) = true := by simp; omega
  rw [if_pos h2]
  simp
theorem seq_last (n : Nat) : seqIndex? (-1) (n + 1) = some n := by
  unfold seqIndex?
  have : ((n + 1 : Nat) : Int) = (n : Int) + 1 := by omega
  simp [this]
  try omega
theorem item_tupAt {value slice : PySem.Expr} {a : Addr} {vs : List Value} {n : Nat} {k : Int} {u : Tok} {v : Value} {Q : Value → Shared → Prop} (N : News h₀ L s.heap news) (hm : (a, ({ cls := .type "tuple", data := .seq vs.toArray n } : Obj)) ∈ news) (hx : At vs k v) (hl : LenOk vs.length) (h : Q v s)
    (hs : subscripted slice false (.ref a) (.int k u) = operate [.ref a, .int k u] (getItem (.ref a) (.int k u)) := by with_unfolding_all rfl) :
    wpAny (model prog w) A (subscriptTail value slice (.ref a) (.int k u)) Q E s := by
  obtain ⟨i, rfl, hx⟩ := hx
  have hi := at_lt hx
  have h2 := lenok_small hl
  exact item_tupleT (j := i) (News.isTup N hm) (by omega) (by omega) (seq_at hi) hx h hs
theorem item_lstAt {value slice : PySem.Expr} {a : Addr} {vs : List Value} {n : Nat} {k : Int} {u : Tok} {v : Value} {Q : Value → Shared → Prop} (N : News h₀ L s.heap news) (hm : (a, ({ cls := .type "list", data := .seq vs.toArray n } : Obj)) ∈ news) (hx : At vs k v) (hl : LenOk vs.length) (h : Q v s)
    (hs : subscripted slice false (.ref a) (.int k u) = operate [.ref a, .int k u] (getItem (.ref a) (.int k u)) := by with_unfolding_all rfl) :
    wpAny (model prog w) A (subscriptTail value slice (.ref a) (.int k u)) Q E s := by
  obtain ⟨i, rfl, hx⟩ := hx
  have hi := at_lt hx
  have h2 := lenok_small hl
  exact item_lst N hm (by omega) (by omega) (by simpa using hx) h hs
theorem item_lstLast {value slice : PySem.Expr} {a : Addr} {vs : List Value} {v : Value} {n : Nat} {u : Tok} {Q : Value → Shared → Prop} (N : News h₀ L s.heap news) (hm : (a, W.listOf vs.toArray n) ∈ news) (hv : LastV vs v)
    (h : Q v s) (hs : subscripted slice false (.ref a) (.int (-1) u) = operate [.ref a, .int (-1) u] (getItem (.ref a) (.int (-1) u)) := by with_unfolding_all rfl) :
    wpAny (model prog w) A (subscriptTail value slice (.ref a) (.int (-1) u)) Q E s := by
  obtain ⟨us, rfl⟩ := hv
  exact item_lstN (vs := us ++ [v]) (j := us.length) N hm (by decide) (by decide) (by rw [List.length_append]; exact seq_last _) (by simp) h hs
theorem item_tupLast {value slice : PySem.Expr} {a : Addr} {vs : List Value} {v : Value} {n : Nat} {u : Tok} {Q : Value → Shared → Prop} (N : News h₀ L s.heap news) (hm : (a, ({ cls := .type "tuple", data := .seq vs.toArray n } : Obj)) ∈ news) (hv : LastV vs v)
    (h : Q v s) (hs : subscripted slice false (.ref a) (.int (-1) u) = operate [.ref a, .int (-1) u] (getItem (.ref a) (.int (-1) u)) := by with_unfolding_all rfl) :
    wpAny (model prog w) A (subscriptTail value slice (.ref a) (.int (-1) u)) Q E s := by
  obtain ⟨us, rfl⟩ := hv
  exact item_tupleT (j := us.length) (News.isTup N hm) (by decide) (by decide) (by rw [List.length_append]; exact seq_last _) (by simp) h hs
theorem len_tupL {a : Addr} {vs : List Value} {n : Nat} {Q : Value → Shared → Prop} (N : News h₀ L s.heap news) (hm : (a, ({ cls := .type "tuple", data := .seq vs.toArray n } : Obj)) ∈ news) (hl : LenOk vs.length)
    (h : ∀ t t', Q (.int vs.length t) { s with toks := t' }) : wpAny (model prog w) A (call (.builtin "len") [.ref a]) Q E s :=
  len_tuple (News.isTup N hm) (by rw [List.size_toArray]; exact lenok_small hl) (by rw [List.size_toArray]; exact h _ _)
theorem len_lstL {a : Addr} {vs : List Value} {n : Nat} {Q : Value → Shared → Prop} (N : News h₀ L s.heap news) (hm : (a, W.listOf vs.toArray n) ∈ news) (hl : LenOk vs.length)
    (h : ∀ t t', Q (.int vs.length t) { s with toks := t' }) : wpAny (model prog w) A (call (.builtin "len") [.ref a]) Q E s :=
  len_list ⟨_, (N _ hm).1, rfl, _, rfl⟩ (by rw [List.size_toArray]; exact lenok_small hl) (by rw [List.size_toArray]; exact h _ _)
theorem tup_of_list {a : Addr} {vs : List Value} {n : Nat} {Q : Value → Shared → Prop} (F : Fr h₀ L s.heap m) (N : News h₀ L s.heap news) (hm : (a, W.listOf vs.toArray n) ∈ news) (hl : LenOk vs.length)
    (h : ∀ D h', Fr h₀ L h' m → News h₀ L h' ((D, ({ cls := .type "tuple", data := .seq vs.toArray } : Obj)) :: news) → (∀ p ∈ news, p.1 < D) → Q (.ref D) { s with heap := h' }) : wpAny (model prog w) A (call (.type "tuple") [.ref a]) Q E s :=
  kde_tupleOf F N ⟨_, (N _ hm).1, rfl, _, rfl⟩ (by rw [List.size_toArray]; have := hl.le; omega) rfl h
theorem append_L {D : Addr} {vs : List Value} {n : Nat} {x : Value} {news' : Led} {Q : Value → Shared → Prop} (F : Fr h₀ L s.heap m) (N : News h₀ L s.heap news) (U : Upd D (W.listOf vs.toArray n) (W.listOf (vs ++ [x]).toArray (n + 1)) news news') (hl : LenOk vs.length)
    (h : ∀ h', Fr h₀ L h' m → News h₀ L h' news' → Q .none { s with heap := h' }) : wpAny (model prog w) A (call (.builtin "list.append") [.ref D, x]) Q E s := by
  have e : (vs ++ [x]).toArray = vs.toArray.push x := by simp
  rw [e] at U
  exact append_K F N U h (by rw [List.size_toArray, sizeLine_eq]; have := hl.le; omega)
theorem size_up (n : Nat) : Builtin.Range.rangeSize 0 (n : Int) 1 = (n : Int) := by
  unfold Builtin.Range.rangeSize
  have h : ((1 : Int) > 0) := by decide
  simp only [h, if_true, Int.ediv_one]
  split <;> omega
theorem small_up {n : Nat} (h : LenOk n) : Builtin.Range.small 0 (n : Int) 1 = true := by
  have h' : ∀ k, k < 61 → Builtin.Range.small 0 ((k : Nat) : Int) 1 = true := by decide +kernel
  exact h' n (by unfold LenOk at h; omega)
end
section
variable {prog : Program} {w : World} {A : Around} {E : Value → Shared → Prop} {s : Shared} {h₀ : Heap} {L : Addr} {m : Str → Option Value} {env : Env} {ct elt : PySem.Expr} {ifs : List PySem.Expr} {scope : Scope} {cl : List (Str × Addr)} {wr : Wr} {news news₀ base keep : Led}
/-- a comprehension over range(n), n any: its source -/
theorem comp_rangeN {Fin : Shared → LedT → List Value → LedT → Prop} {x : Str} {px : Pos} {r : Addr} {b₀ : Int} {t₀ u₀ v₀ : Tok} {n : Nat} (hh : A.handled = none) (hr : IsRange s.heap r 0 b₀ 1 t₀ u₀ v₀) (hb : b₀ = (n : Int)) (hl : LenOk n) (F : Fr h₀ L s.heap m) (N : News h₀ L s.heap news)
    (hkind : scope.kind = .function) (hx : scope.names.lookup x = some .local)
    (rest : ∀ I : Addr, ∀ s₂ : Shared, (∃ h, s₂ = { s with heap := h }) → CRest prog w A h₀ L m env ifs elt scope cl s₂ ([I], [I]) (Fin s₂ news) ((List.range n).map fun (i : Nat) t => [(x, .int (0 + (i : Int)) t)]) [] news) :
    wpAny (model prog w) A (pyIter (.ref r)) (fun it s₂ => CompAt prog w A h₀ L m env (.Name x px) ifs elt scope cl Fin it s₂) E s := by
  subst hb
  exact comp_range hh hr (small_up hl) (size_up n) F N hkind hx hl.le rest
/-- a comprehension over range(n) whose turns make one datum each -/
theorem CRest.upto {Fin : List Value → LedT → Prop} {x : Str} {n : Nat} {f : Nat → Dat}
    (turn : ∀ i, i < n → ∀ ys tl, Ord base tl → ∀ t own C oC D m₂ h tk (E' : Value → Shared → Prop), NsObj oC m₂ → m₂ x = some (.int (0 + (i : Int)) t) → Fr h₀ L h m → News h₀ L h ((C, oC) :: (D, lst ys) :: (own ++ (tl ++ news₀))) → COff wr C D (tl ++ news₀) → OwnW wr own →
        wpAny (model prog w) A (eval elt (compEnvC scope cl C env)) (CEnd h₀ L m { s with heap := h, toks := tk } wr own C oC D ys (fun y news' => ∃ tl', news' = tl' ++ (tl ++ news₀) ∧ Ord base tl' ∧ DatIn (keep ++ tl') y (f i))) E' { s with heap := h, toks := tk })
    (last : ∀ ys tl, Ord base tl → DatAll (keep ++ tl) ys ((List.range n).map f) → Fin ys (tl ++ news₀)) :
    CRest prog w A h₀ L m env [] elt scope cl s wr Fin ((List.range n).map fun (i : Nat) t => [(x, .int (0 + (i : Int)) t)]) [] news₀ := by
  refine CRest.each (α := Nat) (fun ys r nw => ∃ done tl, List.range n = done ++ r ∧ nw = tl ++ news₀ ∧ Ord base tl ∧ DatAll (keep ++ tl) ys (done.map f)) (fun (i : Nat) t => [(x, .int (0 + (i : Int)) t)]) (fun i => i < n) ?_ ?_ (List.range n) [] news₀ (fun i hi => List.mem_range.mp hi) ⟨[], [], rfl, rfl, Ord.nil, .nil⟩
  · rintro i r ys nw hi ⟨done, tl, e, rfl, ho, hd⟩ t own C oC D m₂ h tk E' k1 k2 k3 k4 k5 k6
    refine wpAny_mono (turn i hi ys tl ho t own C oC D m₂ h tk E' k1 k2.1 k3 k4 k5 k6) (fun y s₂ hr => ?_) fun _ _ e => e
    obtain ⟨h₅, tk₅, news₅, e5, F₅, N₅, off₅, tl', rfl, ho', hy⟩ := hr
    refine ⟨h₅, tk₅, _, e5, F₅, N₅, off₅, done ++ [i], tl' ++ tl, by rw [e]; simp, by rw [List.append_assoc], Ord.app ho' ho, ?_⟩
    rw [List.map_append]
    refine DatAll.append (hd.mono fun p hp => ?_) (DatAll.one (hy.mono fun p hp => ?_))
    · rcases List.mem_append.mp hp with hp | hp
      · exact List.mem_append.mpr (.inl hp)
      · exact List.mem_append.mpr (.inr (List.mem_append.mpr (.inr hp)))
    · rcases List.mem_append.mp hp with hp | hp
      · exact List.mem_append.mpr (.inl hp)
      · exact List.mem_append.mpr (.inr (List.mem_append.mpr (.inl hp)))
  · rintro ys nw ⟨done, tl, e, rfl, ho, hd⟩
    rw [List.append_nil] at e
    exact last ys tl ho (e ▸ hd)
end
end
section
theorem qd_inj {a b : Rat} (h : qd a = qd b) : a = b := by
  unfold qd at h
  simp only [Dat.tuple.injEq, List.cons.injEq, Dat.int.injEq, and_true] at h
  have h2 : a.den = b.den := by omega
  exact Rat.ext h.1 h2
theorem pd_inj {p q : Pt} (h : pd p = pd q) : p = q := by
  unfold pd at h
  simp only [Dat.tuple.injEq, List.cons.injEq, and_true] at h
  exact Prod.ext (qd_inj h.1) (qd_inj h.2)
theorem pd_iff {p q : Pt} : pd p = pd q ↔ p = q := ⟨pd_inj, fun h => h ▸ rfl⟩
theorem qd_ok (n : Nat) (q : Rat) : kqdOk (n + 1) (qd q) = true := by simp [qd, kqdOk]
theorem pd_ok (n : Nat) (p : Pt) : kqdOk (n + 2) (pd p) = true := by simp [pd, kqdOk, qd_ok]

section
variable {prog : Program} {w : World} {A : Around} {E : Value → Shared → Prop} {s : Shared} {h₀ : Heap} {L : Addr} {news n₁ n₂ : Led} {a b : Value} {d e : Dat} {Q : Value → Shared → Prop}
theorem dat_eqv (hd : kqdOk 9 d = true) (he : kqdOk 9 e = true) (P : Prop) [Decidable P] (hP : d = e ↔ P) : PyData.eqv (kqdP d) (kqdP e) = decide P := by
  have q := kqd_eqv 9 d e 9 hd he
  by_cases hp : P
  · rw [decide_eq_true hp]; exact q.mpr (hP.mpr hp)
  · rw [decide_eq_false hp]; exact Bool.eq_false_iff.mpr fun x => hp (hP.mp (q.mp x))
theorem dat_shaped (hd : kqdOk 9 d = true) : SeqAt.shaped (kqdP d) = true := by
  have l := kqd_lay 9 d hd
  unfold SeqAt.shaped; rw [l.1, Bool.true_and]; exact decide_eq_true (Nat.le_trans l.2 (by decide))
theorem dat_eq (P : Prop) [Decidable P] (N : News h₀ L s.heap news) (Da : DatIn n₁ a d) (sa : ∀ p ∈ n₁, p ∈ news) (Db : DatIn n₂ b e) (sb : ∀ p ∈ n₂, p ∈ news) (hd : kqdOk 9 d = true) (he : kqdOk 9 e = true) (hP : d = e ↔ P) (hu : A.units + 64 < cLine)
    (h : Q (.bool (decide P)) s) : wpAny (model prog w) A (compareOp .Eq a b) Q E s := by
  obtain ⟨as, ra⟩ := kqd_in N 9 (Da.mono sa) hd
  obtain ⟨bs, rb⟩ := kqd_in N 9 (Db.mono sb) he
  exact eq_dataH ra rb (dat_shaped hd) (dat_shaped he) hu (by rw [dat_eqv hd he P hP]; exact h)
theorem dat_ne (P : Prop) [Decidable P] (N : News h₀ L s.heap news) (Da : DatIn n₁ a d) (sa : ∀ p ∈ n₁, p ∈ news) (Db : DatIn n₂ b e) (sb : ∀ p ∈ n₂, p ∈ news) (hd : kqdOk 9 d = true) (he : kqdOk 9 e = true) (hP : d = e ↔ ¬ P) (hu : A.units + 64 < cLine)
    (h : Q (.bool (decide P)) s) : wpAny (model prog w) A (compareOp .NotEq a b) Q E s := by
  obtain ⟨as, ra⟩ := kqd_in N 9 (Da.mono sa) hd
  obtain ⟨bs, rb⟩ := kqd_in N 9 (Db.mono sb) he
  exact ne_dataH ra rb (dat_shaped hd) (dat_shaped he) hu (by
    rw [dat_eqv hd he (¬ P) hP]
    have : (!decide (¬ P)) = decide P := by by_cases hp : P <;> simp [hp]
    rw [this]; exact h)
theorem pt_ne {p q : Pt} (N : News h₀ L s.heap news) (Da : DatIn n₁ a (pd p)) (sa : ∀ p ∈ n₁, p ∈ news) (Db : DatIn n₂ b (pd q)) (sb : ∀ p ∈ n₂, p ∈ news) (hu : A.units + 64 < cLine)
    (h : Q (.bool (decide (p ≠ q))) s) : wpAny (model prog w) A (compareOp .NotEq a b) Q E s :=
  dat_ne (p ≠ q) N Da sa Db sb (pd_ok 7 p) (pd_ok 7 q) (by rw [pd_iff]; exact Decidable.not_not.symm) hu h
end

theorem con_frac0 {w : World} {mean : ExcName → Option Value} {mg mb : Str → Option Value} (l : Led) (v : Value) (vs : List Value) (h : DatIn l v (.int 0)) (r : DatAll l vs []) : Gives w mean mg mb 4 80 l l (v :: vs) (fun l r => DatIn l r (qd 0)) := by
  obtain ⟨t, rfl⟩ := int_open h
  cases dall_nil r
  exact ct_frac1
structure MkRev : Prop where
def psub (p q : Pt) : Pt := (p.1 - q.1, p.2 - q.2)
def pneg (p : Pt) : Pt := (0 - p.1, 0 - p.2)
def dirF (p0 : Pt) : List Pt → Pt
  | [] => (0, 0)
  | q :: r => if q ≠ p0 then psub q p0 else dirF p0 r
def dirE (p0 : Pt) : List Pt → Pt
  | [] => (0, 0)
  | q :: r => if q ≠ p0 then pneg (psub q p0) else dirE p0 r
theorem Bd.zero : Bd 4000 0 := ⟨Bits.of (Nat.pow_pos (Nat.zero_lt_succ 1)), Bits.of (Nat.one_lt_two_pow (Nat.succ_ne_zero _))⟩
section
variable {l : Led} {r : Value} {p0 q : Pt} {rs : List Pt}
theorem dirF_hit (h : q ≠ p0) (k : DatIn l r (pd (psub q p0))) : DatIn l r (pd (dirF p0 (q :: rs))) := by unfold dirF; rw [if_pos h]; exact k
theorem dirF_miss (h : ¬ q ≠ p0) (k : DatIn l r (pd (dirF p0 rs))) : DatIn l r (pd (dirF p0 (q :: rs))) := by unfold dirF; rw [if_neg h]; exact k
theorem dirE_hit (h : q ≠ p0) (k : DatIn l r (pd (pneg (psub q p0)))) : DatIn l r (pd (dirE p0 (q :: rs))) := by unfold dirE; rw [if_pos h]; exact k
theorem dirE_miss (h : ¬ q ≠ p0) (k : DatIn l r (pd (dirE p0 rs))) : DatIn l r (pd (dirE p0 (q :: rs))) := by unfold dirE; rw [if_neg h]; exact k
end
theorem zero_num : (0 : Rat).num = 0 := rfl
theorem zero_frac : Rat.divInt 0 1 = 0 := rfl

theorem dirF_to {l : Led} {r : Value} {p0 q : Pt} {ps rs : List Pt} (e : dirF p0 ps = dirF p0 (q :: rs)) (h : q ≠ p0) (k : DatIn l r (pd (psub q p0))) : DatIn l r (pd (dirF p0 ps)) := by rw [e]; exact dirF_hit h k
theorem dirE_to {l : Led} {r : Value} {p0 q : Pt} {ps rs : List Pt} (e : dirE p0 ps = dirE p0 (q :: rs)) (h : q ≠ p0) (k : DatIn l r (pd (pneg (psub q p0)))) : DatIn l r (pd (dirE p0 ps)) := by rw [e]; exact dirE_hit h k
theorem dirF_go {p0 q : Pt} {ps rs : List Pt} (e : dirF p0 ps = dirF p0 (q :: rs)) (h : ¬ q ≠ p0) : dirF p0 ps = dirF p0 rs := by rw [e, dirF, if_neg h]
theorem dirE_go {p0 q : Pt} {ps rs : List Pt} (e : dirE p0 ps = dirE p0 (q :: rs)) (h : ¬ q ≠ p0) : dirE p0 ps = dirE p0 rs := by rw [e, dirE, if_neg h]
theorem con_rev {w : World} {mean : ExcName → Option Value} {mg mb : Str → Option Value} {c : List Pt} (hl : LenOk c.length) (l : Led) (v : Value) (vs : List Value) (h : DatIn l v (cvd c)) (r : DatAll l vs []) : Gives w mean mg mb 2 120 l l (v :: vs) (fun l r => DatIn l r (cvd c.reverse)) := by
  cases dall_nil r
  exact ct_rev h hl
theorem dat_comm {a b c : Led} {v : Value} {d : Dat} (h : DatIn (a ++ (b ++ c)) v d) : DatIn (c ++ (a ++ b)) v d := h.mono fun p hp => by
  rcases List.mem_append.mp hp with hp | hp
  · exact List.mem_append.mpr (.inr (List.mem_append.mpr (.inl hp)))
  · rcases List.mem_append.mp hp with hp | hp
    · exact List.mem_append.mpr (.inr (List.mem_append.mpr (.inr hp)))
    · exact List.mem_append.mpr (.inl hp)
theorem reg5 : True := by
  k_with "my con" => first | exact con_plus (by assumption) (by assumption) | exact con_minus (by assumption) (by assumption) | exact con_times (by assumption) (by assumption)
  k_with "compareOp NotEq ref ref" => (k_here; k_dflt (refine' pt_ne (by k_asm) (by assumption) (by kd_subs) (by assumption) (by kd_subs) (by k_extra "my units") ?_))
  k_with "my con" => first | exact con_frac0 | exact con_rev (by assumption)
  trivial
set_option maxRecDepth 100000 in
set_option maxHeartbeats 4000000 in
theorem ct_dirF {w : World} {mean : ExcName → Option Value} {mg mb : Str → Option Value} {news : Led} {vc : Value} {c : List Pt} {p0 : Pt} {ps : List Pt} (hc : c = p0 :: ps) (dc : DatIn news vc (cvd c)) (hl : LenOk c.length) (bc : ∀ p ∈ p0 :: ps, Bp 900 p) :
    Gives w mean mg mb 14 128 news news [vc] (fun l r => DatIn l r (pd (dirF p0 ps))) := by
  subst hc
  refine cvC_elim (P := fun x => Gives w mean mg mb 14 128 news news [x] (fun l r => DatIn l r (pd (dirF p0 ps)))) dc ?_
  intro cA cn a0 vr mc dc d0 dr hv
  unfold Gives
  k_fill
  have hv2 : LenOk (Value.ref a0 :: vr).length := by rw [List.length_cons, hv]; exact hl
  have b0 := bc _ (.head _)
  have s0 : Bd 4000 p0.1 := b0.1.mono (by decide)
  have s1 : Bd 4000 p0.2 := b0.2.mono (by decide)
  have hM := kdMark
  have hB : BaseIs [] news := ⟨⟩
  intro dp un gd cn cs a ccd cl outer A₀ base h₀ L m s nw Q E B F X N T hk hn hd hu hret
  refine wpAny_call ?_
  k_dflt ktr_enter
  k_steps
  refine PRest.seek (fun r => dirF p0 ps = dirF p0 r) (by assumption) rfl rfl ?_ ?_
  · intro v q r dv hq hI own h tk F9 N9
    have bq := bc q (.tail _ hq)
    have s2 : Bd 4000 q.1 := bq.1.mono (by decide)
    have s3 : Bd 4000 q.2 := bq.2.mono (by decide)
    obtain ⟨a1, n1, x1, y1, rfl, _⟩ := pd_open dv
    k_steps
    all_goals first
      | exact dirF_go hI (by assumption)
      | (k_extra "my gend"; exact dirF_to hI (by assumption) (by k_extra "my rel"))
  · intro o h tk hI F9 N9
    k_steps
    k_extra "my gend"
    unfold Says
    rw [hI]
    show DatIn _ _ (pd (0, 0))
    k_extra "my rel"
set_option maxRecDepth 100000 in
set_option maxHeartbeats 4000000 in
theorem ct_dirE {w : World} {mean : ExcName → Option Value} {mg mb : Str → Option Value} {news : Led} {vc : Value} {c : List Pt} {p0 : Pt} {ps : List Pt} (hc : c.reverse = p0 :: ps) (dc : DatIn news vc (cvd c)) (hl : LenOk c.length) (bc : ∀ p ∈ p0 :: ps, Bp 900 p) :
    Gives w mean mg mb 14 128 news news [vc, .bool true] (fun l r => DatIn l r (pd (dirE p0 ps))) := by
  unfold Gives
  k_fill
  have b0 := bc _ (.head _)
  have s0 : Bd 4000 p0.1 := b0.1.mono (by decide)
  have s1 : Bd 4000 p0.2 := b0.2.mono (by decide)
  have sz : Bd 4000 0 := Bd.zero
  have hM := kdMark
  have hB : BaseIs [] news := ⟨⟩
  have hR : MkRev := ⟨⟩
  intro dp un gd cn cs a ccd cl outer A₀ base h₀ L m s nw Q E B F X N T hk hn hd hu hret
  refine wpAny_call ?_
  k_dflt ktr_enter
  k_with "my got" => ((have k9 : MkRev := by assumption); clear hR; rw [hc] at D9; (try dsimp only); refine cvC_elim (P := fun x => wpAny _ _ (storeName _ _ x) _ _ _) D9 ?_; clear D9; intro cA cn a0 vr mc dc d0 dr hv; (have hv2 : LenOk (Value.ref a0 :: vr).length := by rw [List.length_cons, hv]; rw [← List.length_reverse, hc] at hl; exact hl))
  k_steps
  refine PRest.seek (fun r => dirE p0 ps = dirE p0 r) (by assumption) rfl rfl ?_ ?_
  · intro v q r dv hq hI own h tk F9 N9
    have bq := bc q (.tail _ hq)
    have s2 : Bd 4000 q.1 := bq.1.mono (by decide)
    have s3 : Bd 4000 q.2 := bq.2.mono (by decide)
    have z1 : Bd 4000 (q.1 - p0.1) := (Bd.sub bq.1 b0.1).mono (by decide)
    have z2 : Bd 4000 (q.2 - p0.2) := (Bd.sub bq.2 b0.2).mono (by decide)
    obtain ⟨a1, n1, x1, y1, rfl, _⟩ := pd_open dv
    k_steps
    all_goals first
      | exact dirE_go hI (by assumption)
      | (k_extra "my gend"; exact dirE_to hI (by assumption) (by k_extra "my rel"))
  · intro o h tk hI F9 N9
    k_steps
    k_extra "my gend"
    unfold Says
    rw [hI]
    show DatIn _ _ (pd (0, 0))
    k_extra "my rel"
end
section
open PyProof.Rows.LCg (NsObj lst)
/-! ## more of data: comparisons, cells, tests, the call of list -/
theorem lit_bool {b : Bool} {k : Nat} {p : Pos} : LitD (.Constant (.bool b) k p) (.bool b) := ⟨fun _ _ => rfl, fun {_ _ _ _ _ _ _ s _ _ _} F N q => fun _ _ _ => q (.bool b) [] s.heap s.toks F N Ord.nil (.bool b)⟩
theorem subL {tl base led : Led} (h : ∀ p ∈ base, p ∈ led) : ∀ p ∈ tl ++ base, p ∈ tl ++ led := fun p hp => (List.mem_append.mp hp).elim (fun h => List.mem_append.mpr (.inl h)) fun k => List.mem_append.mpr (.inr (h p k))
section
variable {w : World} {A : Around} {env : Env} {h₀ : Heap} {L : Addr} {m : Str → Option Value} {aux base : Led} {e e1 e2 : PySem.Expr} {d d1 d2 : Dat} {ds : List Dat} {p : Pos}
/-- two data compared: what both orders of comparison need -/
theorem dv_two {s : Shared} {Q : Value → Shared → Prop} {E : Value → Shared → Prop} {led : Led} (h1 : Dv w A env h₀ L m aux base e1 d1) (h2 : Dv w A env h₀ L m aux base e2 d2) (F : Fr h₀ L s.heap m) (N : News h₀ L s.heap led) (sb : Subs aux base led) {op : CmpOp}
    (q : ∀ v u tl h' tk, Fr h₀ L h' m → News h₀ L h' (tl ++ led) → Ord led tl → DatIn (tl ++ led) v d1 → DatIn (tl ++ led) u d2 → wpAny (model PG w) A (compareOp op v u) Q E { s with heap := h', toks := tk }) :
    wpAny (model PG w) A (eval e1 env) (fun a s₁ => wpAny (model PG w) A (eval e2 env) (fun b s₂ => wpAny (model PG w) A (compareOp op a b) Q E s₂) E s₁) E s :=
  h1.run F N sb fun v tl h' tk F' N' o D => h2.run F' N' (sub_app sb) fun u tl2 h2 tk2 F2 N2 o2 D2 =>
    q v u (tl2 ++ tl) h2 tk2 F2 (by rw [List.append_assoc]; exact N2) (Ord.app (Ord.sub o2 fun p hp => List.mem_append.mpr (.inr hp)) o)
      (by rw [List.append_assoc]; exact D.mono fun p hp => List.mem_append.mpr (.inr (subL sb.b p hp))) (by rw [List.append_assoc]; exact D2.mono (subL fun p hp => List.mem_append.mpr (.inr (sb.b p hp))))
theorem dv_ne (P : Prop) [Decidable P] (h1 : Dv w A env h₀ L m aux base e1 d1) (h2 : Dv w A env h₀ L m aux base e2 d2) (k1 : kqdOk 9 d1 = true) (k2 : kqdOk 9 d2 = true) (hP : d1 = d2 ↔ ¬ P) (hm : behindInMarks .NotEq e2 = false) (hu : A.units + 64 < cLine) : Dv w A env h₀ L m aux base (.Compare e1 [.NotEq] [e2] p) (.bool (decide P)) := ⟨fun _ => rfl, fun F N sb q =>
  wpAny_Compare1 (dv_two h1 h2 F N sb fun v u tl h' tk F' N' o D D2 => dat_ne P N' D (fun _ h => h) D2 (fun _ h => h) k1 k2 hP hu (q _ tl _ _ F' N' o (.bool _))) hm⟩
theorem dv_eq (P : Prop) [Decidable P] (h1 : Dv w A env h₀ L m aux base e1 d1) (h2 : Dv w A env h₀ L m aux base e2 d2) (k1 : kqdOk 9 d1 = true) (k2 : kqdOk 9 d2 = true) (hP : d1 = d2 ↔ P) (hm : behindInMarks .Eq e2 = false) (hu : A.units + 64 < cLine) : Dv w A env h₀ L m aux base (.Compare e1 [.Eq] [e2] p) (.bool (decide P)) := ⟨fun _ => rfl, fun F N sb q =>
  wpAny_Compare1 (dv_two h1 h2 F N sb fun v u tl h' tk F' N' o D D2 => dat_eq P N' D (fun _ h => h) D2 (fun _ h => h) k1 k2 hP hu (q _ tl _ _ F' N' o (.bool _))) hm⟩
end
section
variable {w : World} {A : Around} {h₀ : Heap} {L a c : Addr} {m : Str → Option Value} {aux base : Led} {cn : Str} {cs : Scope} {ccd : Value} {cl : List (Str × Addr)} {x : Str} {p : Pos} {o : Obj} {v : Value} {d : Dat}
theorem dv_cell (hc : cl.lookup x = some c) (hm : (c, o) ∈ aux) (ho : o.data = .cell (some v)) (hd : DatIn base v d) (hk : cs.kind = .function) (hx : (envX cn cs L a ccd cl).kindOf x = some .cell) (hb : (x == ("__debug__" : Str)) = false) : Dv w A (envX cn cs L a ccd cl) h₀ L m aux base (.Name x p) d :=
  ⟨fun _ => rfl, fun F N sb q => nameX_C N hc (sb.a _ hm) ho (q v [] _ _ F N Ord.nil hd) hk hx hb⟩
theorem dv_free {scope : Scope} {env : Env} {C : Addr} (hc : cl.lookup x = some c) (hm : (c, o) ∈ aux) (ho : o.data = .cell (some v)) (hd : DatIn base v d) (hk : (compEnvC scope cl C env).scope.kind = .function) (hx : (compEnvC scope cl C env).kindOf x = some .free) (hb : (x == ("__debug__" : Str)) = false) (hn : (x == ("__classdict__" : Str)) = false) : Dv w A (compEnvC scope cl C env) h₀ L m aux base (.Name x p) d :=
  ⟨fun _ => rfl, fun F N sb q => ldFreeK hc ⟨o, (N _ (sb.a _ hm)).1, ho⟩ (q v [] _ _ F N Ord.nil hd) hk hx hb hn⟩
theorem dv_ccell {scope : Scope} {env : Env} {C : Addr} (hc : cl.lookup x = some c) (hm : (c, o) ∈ aux) (ho : o.data = .cell (some v)) (hd : DatIn base v d) (hk : (compEnvC scope cl C env).scope.kind = .function) (hx : (compEnvC scope cl C env).kindOf x = some .cell) (hb : (x == ("__debug__" : Str)) = false) : Dv w A (compEnvC scope cl C env) h₀ L m aux base (.Name x p) d :=
  ⟨fun _ => rfl, fun F N sb q => ldCellK hc ⟨o, (N _ (sb.a _ hm)).1, ho⟩ (q v [] _ _ F N Ord.nil hd) hk hx hb⟩
end
section
variable {w : World} {A : Around} {env : Env} {h₀ : Heap} {L : Addr} {m : Str → Option Value} {aux base : Led} {scope : Scope} {cl : List (Str × Addr)} {x : Str} {eltE c1 c2 : PySem.Expr} {d0 : Dat} {b : Dat → Bool} {ds : List Dat} {p : Pos}
/-- [x for x in .. if x != c2]: c2 is the same at each turn -/
theorem crest_flt {s : Shared} {wr : Wr} {keep led : Led} {Fin : List Value → LedT → Prop} {vs : List Value} (r : DatAll keep vs ds) (ha : ∀ p ∈ aux, p ∈ led) (hb : ∀ p ∈ base, p ∈ keep) (hk : ∀ p ∈ keep, p ∈ led)
    (elt : EltOk w A env h₀ L m aux base scope cl x eltE (fun d => d) ds) (t1 : EltOk w A env h₀ L m aux base scope cl x c1 (fun d => d) ds) (t2 : EltOk w A env h₀ L m aux base scope cl x c2 (fun _ => d0) ds)
    (ok : ∀ d ∈ ds, kqdOk 9 d = true) (ok0 : kqdOk 9 d0 = true) (hP : ∀ d ∈ ds, d = d0 ↔ ¬ b d = true) (hm : behindInMarks .NotEq c2 = false) (hu : A.units + 64 < cLine) (fin : ∀ ys t, Ord led t → DatAll (t ++ keep) ys (ds.filter b) → Fin ys (t ++ led)) :
    CRest PG w A h₀ L m env [.Compare c1 [.NotEq] [c2] p] eltE scope cl s wr Fin (vs.map fun v _ => [(x, v)]) [] led := by
  have key : ∀ (vs' : List Value) (ds' done : List Dat) (ys : List Value) (t : Led), DatAll keep vs' ds' → ds = done ++ ds' → Ord led t → DatAll (t ++ keep) ys (done.filter b) →
      CRest PG w A h₀ L m env [.Compare c1 [.NotEq] [c2] p] eltE scope cl s wr Fin (vs'.map fun v _ => [(x, v)]) ys (t ++ led) := by
    intro vs'
    induction vs' with
    | nil =>
      intro ds' done ys t r' e o D
      cases r'
      rw [List.append_nil] at e
      exact CRest.zero (fin ys t o (e ▸ D))
    | cons v vs' ih =>
      intro ds' done ys t r' e o D
      cases r' with
      | cons hv r' =>
        rename_i d ds'
        have hd : d ∈ ds := by rw [e]; exact List.mem_append.mpr (.inr (.head _))
        have e' : ds = (done ++ [d]) ++ ds' := by rw [e]; simp
        refine CRest.test fun t0 own C oC X m₂ h tk E' k1 k2 k3 k4 k5 k6 => ?_
        have sb : Subs ((C, oC) :: aux) keep ((C, oC) :: (X, lst ys) :: (own ++ (t ++ led))) := ⟨fun p hp => by
          rcases List.mem_cons.mp hp with rfl | hp
          · exact .head _
          · exact .tail _ (.tail _ (List.mem_append.mpr (.inr (List.mem_append.mpr (.inr (ha p hp)))))), fun p hp => .tail _ (.tail _ (List.mem_append.mpr (.inr (List.mem_append.mpr (.inr (hk p hp))))))⟩
        have all : ∀ (t9 : Led), Ord ((C, oC) :: (X, lst ys) :: (own ++ (t ++ led))) t9 → (∀ p ∈ (C, oC) :: (X, lst ys) :: (own ++ ((t9 ++ t) ++ led)), p ∈ t9 ++ ((C, oC) :: (X, lst ys) :: (own ++ (t ++ led)))) ∧ COff wr C X ((t9 ++ t) ++ led) ∧ Ord led (t9 ++ t) := by
          intro t9 o9
          refine ⟨fun p hp => ?_, fun p hp => ?_, Ord.app (Ord.sub o9 fun p hp => .tail _ (.tail _ (List.mem_append.mpr (.inr (List.mem_append.mpr (.inr hp)))))) o⟩
          · rw [← List.cons_append, ← List.cons_append, ← List.append_assoc] at hp
            rcases List.mem_append.mp hp with hp | hp
            · rcases List.mem_append.mp hp with hp | hp
              · exact List.mem_append.mpr (.inr (by
                  rcases List.mem_cons.mp hp with rfl | hp
                  · exact .head _
                  rcases List.mem_cons.mp hp with rfl | hp
                  · exact .tail _ (.head _)
                  · exact .tail _ (.tail _ (List.mem_append.mpr (.inl hp)))))
              · rcases List.mem_append.mp hp with hp | hp
                · exact List.mem_append.mpr (.inl hp)
                · exact List.mem_append.mpr (.inr (.tail _ (.tail _ (List.mem_append.mpr (.inr (List.mem_append.mpr (.inl hp)))))))
            · exact List.mem_append.mpr (.inr (.tail _ (.tail _ (List.mem_append.mpr (.inr (List.mem_append.mpr (.inr hp)))))))
          · rcases List.mem_append.mp hp with hp | hp
            · rcases List.mem_append.mp hp with hp | hp
              · exact coff_ordW k6 o9 (.head _) (.tail _ (.head _)) (fun q hq => .tail _ (.tail _ (List.mem_append.mpr (.inl hq)))) p hp
              · exact k5 p (List.mem_append.mpr (.inl hp))
            · exact k5 p (List.mem_append.mpr (.inr hp))
        have up : ∀ (t9 : Led), DatAll ((t9 ++ t) ++ keep) ys (done.filter b) := fun t9 => D.mono fun p hp => (List.mem_append.mp hp).elim (fun h => List.mem_append.mpr (.inl (List.mem_append.mpr (.inr h)))) fun h => List.mem_append.mpr (.inr h)
        refine wpAny_isTrue_Compare1 (dv_two (s := { s with heap := h, toks := tk }) (t1 keep d v C oC m₂ hb hd k1 k2.1 hv) (t2 keep d v C oC m₂ hb hd k1 k2.1 hv) k3 k4 sb fun u1 u2 t8 h8 tk8 F8 N8 o8 D1 D2 => ?_) hm
        refine dat_ne (b d = true) N8 D1 (fun _ h => h) D2 (fun _ h => h) (ok d hd) ok0 (hP d hd) hu (wpAny_truthy_bool ?_)
        by_cases hbd : b d = true
        · rw [decide_eq_true hbd]
          simp only [if_true]
          refine (elt keep d v C oC m₂ hb hd k1 k2.1 hv).run (s := { s with heap := h8, toks := tk8 }) F8 N8 (sub_app sb) fun y t9 h9 tk9 F9 N9 o9 D9 => ?_
          have ho : Ord ((C, oC) :: (X, lst ys) :: (own ++ (t ++ led))) (t9 ++ t8) := Ord.app (Ord.sub o9 fun p hp => List.mem_append.mpr (.inr hp)) o8
          obtain ⟨a1, a2, a3⟩ := all (t9 ++ t8) ho
          refine CEnd.intro (news' := ((t9 ++ t8) ++ t) ++ led) F9 N9 (fun p hp => by have := a1 p hp; rw [List.append_assoc] at this; exact this) a2 (ih ds' (done ++ [d]) (ys ++ [y]) _ r' e' a3 ?_)
          rw [List.filter_append, List.filter_cons_of_pos (by simpa using hbd)]
          exact DatAll.append (up _) (DatAll.one (D9.mono fun p hp => (List.mem_append.mp hp).elim (fun h => List.mem_append.mpr (.inl (List.mem_append.mpr (.inl (List.mem_append.mpr (.inl h)))))) fun h => List.mem_append.mpr (.inr h)))
        · rw [decide_eq_false hbd]
          simp only [Bool.false_eq_true, if_false]
          obtain ⟨a1, a2, a3⟩ := all t8 o8
          refine CEnd.intro (news' := (t8 ++ t) ++ led) F8 N8 a1 a2 (ih ds' (done ++ [d]) ys _ r' e' a3 ?_)
          rw [List.filter_append, List.filter_cons_of_neg (by simpa using hbd), List.filter_nil, List.append_nil]
          exact up _
  exact key vs ds [] [] [] r rfl Ord.nil .nil
theorem dv_flt {iter : PySem.Expr} {px pos : Pos} (hclos : closureFor scope env = pure cl) (hcell : ∀ y ∈ scope.names, y.2 ≠ .cell) (hkind : scope.kind = .function) (hnames : ∀ y ∈ scope.names, y.2 = .local → scope.names.lookup y.1 = some .local) (hx : scope.names.lookup x = some .local) (hh : A.handled = none)
    (src : Dv w A env h₀ L m aux base iter (.tuple ds)) (hl : ds.length ≤ 60) (hs : ∀ x, foldedSetIterable iter env x = pure x) (elt : EltOk w A env h₀ L m aux base scope cl x eltE (fun d => d) ds) (t1 : EltOk w A env h₀ L m aux base scope cl x c1 (fun d => d) ds) (t2 : EltOk w A env h₀ L m aux base scope cl x c2 (fun _ => d0) ds)
    (ok : ∀ d ∈ ds, kqdOk 9 d = true) (ok0 : kqdOk 9 d0 = true) (hP : ∀ d ∈ ds, d = d0 ↔ ¬ b d = true) (hm : behindInMarks .NotEq c2 = false) (hu : A.units + 64 < cLine) :
    Dv w A env h₀ L m aux base (.ListComp eltE [⟨.Name x px, iter, [.Compare c1 [.NotEq] [c2] p], 0⟩] scope pos) (.list (ds.filter b)) := ⟨fun _ => rfl, fun {s Q E led} F N sb q => by
  refine comp_eval F hclos hcell hkind hnames (src.run F N sb fun u tl h' tk F' N' o D => ?_) hs
  obtain ⟨a, n, vs, rfl, hm', r⟩ := tup_open D
  have sub := subL (tl := tl) sb.b
  refine comp_tup hh F' N' (sub _ hm') hkind hx (by rw [r.length]; exact Nat.le_trans hl (by decide)) fun I s₂ hs₂ => ?_
  obtain ⟨h₂, rfl⟩ := hs₂
  exact crest_flt r (fun p hp => List.mem_append.mpr (.inr (sb.a p hp))) (fun p hp => List.mem_append.mpr (.inr hp)) sub elt t1 t2 ok ok0 hP hm hu (fin_dv (keep := tl ++ base) o q)⟩
end
end
section
def AtD (ds : List Dat) (i : Int) (d : Dat) : Prop := ∃ j : Nat, i = (j : Int) ∧ ds[j]? = some d
section
variable {w : World} {A : Around} {env : Env} {h₀ : Heap} {L : Addr} {m : Str → Option Value} {aux base : Led} {e1 e2 : PySem.Expr} {d : Dat} {ds ds' : List Dat} {p : Pos} {i : Int}
theorem dv_itemAt (h1 : Dv w A env h₀ L m aux base e1 (.tuple ds)) (h2 : Dv w A env h₀ L m aux base e2 (.int i)) (hx : AtD ds i d) (hl : ds.length ≤ 60) (hs : ∀ a u, subscripted e2 false (.ref a) (.int i u) = operate [.ref a, .int i u] (getItem (.ref a) (.int i u))) : Dv w A env h₀ L m aux base (.Subscript e1 e2 p) d := ⟨fun _ => rfl, fun F N sb q => by
  refine Subscript_ (h1.run F N sb fun u tl h' tk F' N' o D => ?_)
  obtain ⟨a, n, vs, rfl, hm, r⟩ := tup_open D
  refine h2.run F' N' (sub_app sb) fun u2 tl2 h9 tk2 F2 N2 o2 D2 => ?_
  obtain ⟨t, rfl⟩ := int_open D2
  obtain ⟨j, rfl, hj⟩ := hx
  obtain ⟨v, hv, hd⟩ := DatAll.at r hj
  have hjl : j < vs.length := at_lt hv
  have hvl : vs.length ≤ 60 := by rw [r.length]; exact hl
  refine item_tupleT (j := j) (News.isTup N2 (List.mem_append.mpr (.inr (subL sb.b _ hm)))) (by omega) (by omega) (seq_at hjl) hv ?_ (hs a t)
  exact q v (tl2 ++ tl) h9 tk2 F2 (by rw [List.append_assoc]; exact N2) (Ord.app (Ord.sub o2 fun p hp => List.mem_append.mpr (.inr hp)) o) (mono_app hd)⟩
end
end
section
theorem is_state {f s f0 s0 : Int} (h : 0 < s) (e : Int.gcd f s = Int.gcd f0 s0) : 0 ≤ Int.fmod f s ∧ 0 ≤ s ∧ Int.gcd s (Int.fmod f s) = Int.gcd f0 s0 := gcd_state h e
theorem is_one {q : Rat} {f s : Int} (h : ¬ 0 < s) (h1 : 0 ≤ s) (h2 : 0 ≤ f) (e : Int.gcd f s = Int.gcd (if q.num < 0 then -q.num else q.num) (q.den : Int)) : f = 1 := by
  have e' := gcd_end h h1 h2 e
  have hr : Int.gcd q.num (q.den : Int) = 1 := q.reduced
  rw [e', hr]
  rfl
theorem beq_one {f : Int} (h : f = 1) : (f == 1) = true := by subst h; rfl
theorem reg6 : True := by
  k_with_none
  k_with "kcj_q" => first
    | exact List.mem_cons_self
    | (refine List.mem_cons_of_mem _ ?_; k_extra "kcj_q")
    | (refine List.mem_append.mpr (Or.inr ?_); k_extra "kcj_q")
    | (refine List.mem_append.mpr (Or.inl ?_); k_extra "kcj_q")
    | assumption
    | exact sub_use (by assumption) (by assumption)
  k_with "kd_suf" => first
    | with_reducible exact fun _ h => h
    | (refine sub_cons ?_; k_extra "kd_suf")
    | (refine sub_appR ?_; k_extra "kd_suf")
  k_with "kd_subs" => first
    | k_extra "kd_suf"
    | exact List.forall_mem_nil _
    | assumption
    | (refine List.forall_mem_cons.mpr ⟨?_, ?_⟩; (focus k_extra "kcj_q"); kd_subs)
    | (refine List.forall_mem_append.mpr ⟨?_, ?_⟩; (focus kd_subs); kd_subs)
    | (refine sub_cons ?_; kd_subs)
    | (refine sub_appR ?_; kd_subs)
    | (refine sub_appL ?_; kd_subs)
  k_with "ktn_lt" => first | assumption | exact allLt_of (by assumption) | exact alt1 (by assumption) | exact alt2 (by assumption) | exact alt3 (by assumption) | exact alt4 (by assumption) | exact alt5 (by assumption) | exact alt6 (by assumption)
  k_with "ktn_ord" => first
    | exact Ord.nil
    | assumption
    | (refine Ord.app ?_ ?_ <;> ktn_ord)
    | (refine Ord.lt (by ktn_lt) ?_ ?_; (focus kcj_in); ktn_ord)
    | (refine Ord.le (by ktn_lt) ?_ (by omega) ?_; (focus kcj_in); ktn_ord)
    | (refine Ord.sub (by assumption) ?_; kcj_in)
  k_with "ktr_rel" => first | assumption | (refine DatIn.mono ?_ (by assumption); kd_subs)
  k_with "ktr_enter" => first
    | (refine' code_def (by k_asm) (by k_asm) (by k_asm) (by k_asm) (by k_asm) rfl rfl (by first | assumption | exact rfl) (by k_is) (by k_is) (by k_extra "my room") (by first | exact BindsTo.of_eq rfl | exact binds_K (by k_in) rfl (by k_is) rfl rfl rfl | fail "no rule for these arguments") (locs rfl) ?_ rfl rfl rfl (by decide); k_whole; intro g' L' h' FG' F' N' B' X' T'; (try dsimp only); (try k_fold))
    | (refine' code_defC (by k_asm) (by k_asm) (by k_asm) (by k_asm) (by k_asm) rfl rfl (by first | assumption | exact rfl) (by k_is) (by k_is) (by k_extra "my room") (by first | exact BindsTo.of_eq rfl | exact binds_K (by k_in) rfl (by k_is) rfl rfl rfl | fail "no rule for these arguments") rfl (by decide +kernel) ?_ rfl rfl rfl; k_whole; intro g' L' h' tk' cells' FG' F' N' Y' B' X' T' l1; (try k_lt l1); k_cells Y'; (try simp only [List.cons_append, List.nil_append] at N'); (try dsimp only); (try k_fold))
  k_with "my gend" => (refine' gend (by assumption) (by assumption) (by assumption) (by repeat' (first | exact Split.base0 | refine' Split.skip ?_ | refine' Split.appO (by assumption) ?_ | refine' Split.own ?_)) (by ktn_ord) ?_)
  k_with "my end0" => (refine' gend0 (by assumption) (by assumption) (by assumption) (by kd_subs) ?_; (try unfold Says))
  k_with "my dats" => first | exact DatAll.nil | assumption | (refine DatAll.mono ?_ (by assumption); kd_subs) | (refine DatAll.cons ?_ ?_; (focus k_extra "my dat"); k_extra "my dats")
  k_with "my dat" => first
    | exact DatIn.int _ _
    | assumption
    | (refine DatIn.mono ?_ (by assumption); kd_subs)
    | exact DatIn.tuple (by k_extra "kcj_q") (by k_extra "my dats")
    | exact DatIn.list (by k_extra "kcj_q") (by k_extra "my dats")
  k_with "my rel" => (refine DatIn.mono ?_ (by assumption); kd_subs)
  k_with "my room" => first | exact room1 (by assumption) (by exact rfl) | exact room0 (by assumption) (by exact rfl) | ktr_room
  k_with "my units" => first | exact units1 (by assumption) (by exact rfl) | exact units0 (by assumption) (by exact rfl) | ktr_units
  k_with "my ne" => first | exact ne_gtR (by assumption) (by k_extra "kcj_q") | exact ne_ltR (by assumption) (by k_extra "kcj_q") | k_ne
  k_with "newTuple" => (k_here; k_dflt (refine' kup_newTuple (by k_asm) (by k_asm) ?_ (by kmk_size)); intro D' h' F' N' l1; (try k_sweep))
  k_with "newList" => (k_here; k_dflt (refine' newList_K (by k_asm) (by k_asm) ?_ (by size_fits)); intro l' h' F' N' l1; (try k_sweep))
  k_with "my evv" => first
    | ((with_reducible show Ev _ _ _ _ _ (PySem.Expr.Name _ _) _); exact ev_name (by k_asm) (by exact rfl) (by exact rfl) (by exact rfl) (by decide))
    | ((with_reducible show Ev _ _ _ _ _ (PySem.Expr.Subscript _ (PySem.Expr.Constant _ _ _) _) _); exact ev_item (by k_asm) (by k_extra "my evv") (by k_extra "kcj_q") (by decide) (by exact rfl) (by exact rfl))
  k_with "my ev" => first
    | ((with_reducible show Ev _ _ _ _ _ (PySem.Expr.Constant _ _ _) _); exact ev_int)
    | ((with_reducible show Ev _ _ _ _ _ (PySem.Expr.Name _ _) _); exact ev_nameI (by k_asm) (by exact rfl) (by exact rfl) (by exact rfl) (by decide))
    | ((with_reducible show Ev _ _ _ _ _ (PySem.Expr.Subscript _ (PySem.Expr.Constant _ _ _) _) _); exact ev_itemI (by k_asm) (by k_extra "my evv") (by k_extra "kcj_q") (by decide) (by exact rfl) (by exact rfl))
    | ((with_reducible show Ev _ _ _ _ _ (PySem.Expr.BinOp _ PySem.Operator.Mult _ _) _); exact ev_mul (by k_extra "my ev") (by k_extra "my ev") (by mul_fits))
    | ((with_reducible show Ev _ _ _ _ _ (PySem.Expr.BinOp _ PySem.Operator.Add _ _) _); exact ev_add (by k_extra "my ev") (by k_extra "my ev"))
    | ((with_reducible show Ev _ _ _ _ _ (PySem.Expr.BinOp _ PySem.Operator.Sub _ _) _); exact ev_sub (by k_extra "my ev") (by k_extra "my ev"))
    | ((with_reducible show Ev _ _ _ _ _ (PySem.Expr.UnaryOp PySem.UnaryOp.USub _ _) _); exact ev_neg (by k_extra "my ev"))
  k_with "eval BinOp" => (k_here; k_dflt (refine' ev_runI (by k_extra "my ev") ?_); intro t' tk'; (try dsimp only))
  k_with "eval UnaryOp" => (k_here; (with_reducible show wpAny _ _ (eval (PySem.Expr.UnaryOp _ (PySem.Expr.Subscript _ _ _) _) _) _ _ _); k_dflt (refine' ev_runI (by k_extra "my ev") ?_); intro t' tk'; (try dsimp only))
  k_with "eval Subscript" => (k_here; k_dflt (refine' ev_runV (by k_extra "my evv") ?_); intro tk'; (try dsimp only))
  k_with "my bit" => first | assumption | exact Bd.nu (by assumption) | exact Bd.de (by assumption) | (k_dflt (first | exact bp_nx (by assumption) | exact bp_dx (by assumption) | exact bp_ny (by assumption) | exact bp_dy (by assumption)))
  k_with "my lit" => first
    | ((with_reducible show LitD (PySem.Expr.Constant (PySem.Const.int _) _ _) _); exact lit_int)
    | ((with_reducible show LitD (PySem.Expr.Constant (PySem.Const.str _) _ _) _); exact lit_str)
    | ((with_reducible show LitD (PySem.Expr.UnaryOp PySem.UnaryOp.USub (PySem.Expr.Constant (PySem.Const.int _) _ _) _) _); exact lit_neg)
    | ((with_reducible show LitD (PySem.Expr.Tuple _ _ _) _); exact lit_tuple (by k_extra "my lits") (by exact Nat.le_of_ble_eq_true rfl))
    | ((with_reducible show LitD (PySem.Expr.List _ _) _); exact lit_list (by k_extra "my lits") (by exact Nat.le_of_ble_eq_true rfl))
  k_with "my lits" => first
    | ((with_reducible show LitA [] _); exact litA_nil)
    | ((with_reducible show LitA (_ :: _) _); exact litA_cons (by k_extra "my lit") (by k_extra "my lits"))
  k_with "my dvs" => first
    | ((with_reducible show DvA _ _ _ _ _ _ _ _ [] _); exact dvA_nil)
    | ((with_reducible show DvA _ _ _ _ _ _ _ _ (_ :: _) _); exact dvA_cons (by k_extra "my dv") (by k_extra "my dvs"))
  k_with "my dv" => first
    | ((with_reducible show Dv _ _ _ _ _ _ _ _ (PySem.Expr.Name _ _) _); exact dv_name (by exact rfl) (by k_extra "my dat") (by exact rfl) (by exact rfl) (by decide))
    | ((with_reducible show Dv _ _ _ _ _ _ _ _ (PySem.Expr.Constant _ _ _) _); exact dv_lit (by k_extra "my lit"))
    | ((with_reducible show Dv _ _ _ _ _ _ _ _ (PySem.Expr.Subscript _ (PySem.Expr.Constant _ _ _) _) _); first | exact dv_item (by k_extra "my dv") (by decide) (by exact rfl) (by exact rfl) | exact dv_item0 (by k_extra "my dv"))
    | ((with_reducible show Dv _ _ _ _ _ _ _ _ (PySem.Expr.Tuple _ _ _) _); first | exact dv_lit (by k_extra "my lit") | exact dv_tuple (by k_extra "my dvs") (by exact Nat.le_of_ble_eq_true rfl))
    | ((with_reducible show Dv _ _ _ _ _ _ _ _ (PySem.Expr.List _ _) _); exact dv_lit (by k_extra "my lit"))
    | ((with_reducible show Dv _ _ _ _ _ _ _ _ (PySem.Expr.BinOp _ PySem.Operator.Mult _ _) _); exact dv_mul (by k_extra "my dv") (by k_extra "my dv") (by mul_fits))
    | ((with_reducible show Dv _ _ _ _ _ _ _ _ (PySem.Expr.BinOp _ PySem.Operator.Add _ _) _); exact dv_add (by k_extra "my dv") (by k_extra "my dv"))
    | ((with_reducible show Dv _ _ _ _ _ _ _ _ (PySem.Expr.BinOp _ PySem.Operator.Sub _ _) _); exact dv_sub (by k_extra "my dv") (by k_extra "my dv"))
    | ((with_reducible show Dv _ _ _ _ _ _ _ _ (PySem.Expr.UnaryOp PySem.UnaryOp.USub _ _) _); exact dv_neg (by k_extra "my dv"))
    | ((with_reducible show Dv _ _ _ _ _ _ _ _ (PySem.Expr.Call _ _ _ _) _); exact dv_call (by k_asm) (by k_asm) (by k_asm) (by exact rfl) (by k_extra "my fn") (by k_is) (by exact rfl) (by k_extra "my dv") (by k_extra "my dvs") (by exact rfl) (by k_extra "my con") (by k_extra "my room") (by k_extra "my units"))
  k_with "eval Call" => (k_here; k_dflt (refine Wq.out ?_; refine' dv_runB (by assumption) (by k_asm) (by k_asm) (by kd_subs) (by kd_subs) (by k_extra "my dv") ?_); intro v9 t9 h9 tk9 F9 N9 O9 D9; (have hB9 := baseOf (by assumption) D9); (try k_dflt (k_extra "my got")); (try k_sweep))
  k_with "eval Tuple" => (k_here; k_dflt (refine Wq.out ?_; refine' dv_runB (by assumption) (by k_asm) (by k_asm) (by kd_subs) (by kd_subs) (by k_extra "my dv") ?_); intro v9 t9 h9 tk9 F9 N9 O9 D9; (have hB9 := baseOf (by assumption) D9); (try k_dflt (k_extra "my got")); (try k_sweep))
  k_with "eval List" => (k_here; k_dflt (refine Wq.out ?_; refine' dv_runB (by assumption) (by k_asm) (by k_asm) (by kd_subs) (by kd_subs) (by k_extra "my dv") ?_); intro v9 t9 h9 tk9 F9 N9 O9 D9; (have hB9 := baseOf (by assumption) D9); (try k_dflt (k_extra "my got")); (try k_sweep))
  k_with "exec Assign" => (k_here; (with_reducible show wpAny _ _ (exec (PySem.Stmt.Assign [PySem.Expr.Tuple [PySem.Expr.Name _ _, PySem.Expr.Name _ _] _ _] _ _) _) _ _ _); k_dflt (refine Wq.out ?_; refine' dv_pair (by assumption) (by k_asm) (by k_asm) (by kd_subs) (by kd_subs) (by k_extra "my dv") (by with_unfolding_all rfl) (by exact rfl) (by exact rfl) (by exact rfl) (by exact rfl) (by exact rfl) ?_); intro vx9 vy9 t9 h9 tk9 F9 N9 O9 D9 E9; (have hB9 := baseOf (by assumption) D9); (try k_sweep))
  k_with "exec Return some" => (k_here; k_dflt (refine Wq.out ?_; refine' dv_ret (by assumption) (by k_asm) (by k_asm) (by kd_subs) (by kd_subs) (by k_extra "my dv") ?_); intro v9 t9 h9 tk9 F9 N9 O9 D9; (try k_sweep))
  k_with "exec Assign" => (k_here; (with_reducible show wpAny _ _ (exec (PySem.Stmt.Assign [PySem.Expr.Name _ _] _ _) _) _ _ _); k_dflt (refine Wq.out ?_; refine' dv_set (by assumption) (by k_asm) (by k_asm) (by kd_subs) (by kd_subs) (by k_extra "my dv") (by exact rfl) (by exact rfl) (by exact rfl) ?_); intro v9 t9 h9 tk9 F9 N9 O9 D9; (have hB9 := baseOf (by assumption) D9); (try k_dflt (k_extra "my got")); (try k_sweep))
  k_with "my fn" => first
    | ((with_reducible show FnAt _ _ _ _ _ (compEnvC _ _ _ _) _ _); exact fnC (by k_asm) (by k_asm) (by k_is) (by exact rfl) (by exact rfl) (by exact rfl) (by decide))
    | exact fnX (by k_asm) (by k_asm) (by exact rfl) (by k_is) (by exact rfl) (by decide)
  k_with "subscriptTail Name Slice ref ref" => (k_here; (with_reducible show wpAny _ _ (subscriptTail _ (PySem.Expr.Slice none none (some _) _) (Value.ref _) (Value.ref _)) _ _ _); k_dflt (refine' tup_rev (by k_asm) (by k_asm) (by k_mem) rfl ?_ (by with_unfolding_all rfl) (by kmk_pure) (by first | exact Nat.le_of_ble_eq_true rfl | exact LenOk.le (by assumption))); intro D' h' F' N' l1; (try k_sweep))
  k_with "subscriptTail Name Slice ref ref" => (k_here; (with_reducible show wpAny _ _ (subscriptTail _ (PySem.Expr.Slice (some _) none none _) (Value.ref _) (Value.ref _)) _ _ _); k_dflt (refine' tup_tail (by k_asm) (by k_asm) (by k_mem) ?_ (by with_unfolding_all rfl) (by kmk_pure) (by first | exact Nat.le_of_ble_eq_true rfl | exact LenOk.le (by assumption))); intro D' h' F' N' l1; (try k_sweep))
  k_with "exec For" => (k_here; (rename Fr _ _ _ _ => lF'); (with_unfolding_all refine' For_turns lF' ?_; k_whole))
  k_with "exec For Name Subscript cons nil" => (k_here; (rename Fr _ _ _ _ => lF'); (with_unfolding_all refine' For_turns lF' ?_; k_whole))
  k_with "exec For Tuple Call cons nil" => (k_here; (rename Fr _ _ _ _ => lF'); (with_unfolding_all refine' For_turns lF' ?_; k_whole))
  k_with "exec For Name Call cons nil" => (k_here; (rename Fr _ _ _ _ => lF'); (with_unfolding_all refine' For_turns lF' ?_; k_whole))
  k_with "exec For Name Call cons cons" => (k_here; (rename Fr _ _ _ _ => lF'); (with_unfolding_all refine' For_turns lF' ?_; k_whole))
  k_with "pyIter ref" => (k_here; (with_reducible show wpAny _ _ (pyIter (Value.ref _)) (fun it s₂ => TurnsAt _ _ _ _ _ _ _ _ _ it s₂) _ _); k_dflt (refine' for_tup (by with_unfolding_all rfl) (by k_asm) (by k_asm) (by k_mem) rfl rfl ?_); (try dsimp only [List.map_cons, List.map_nil]))
  k_with "PRest" => first
    | (refine PRest.succ ?_; intro t' own' h' tk' F' N'; (try simp only [bindB] at F'); (try k_sweep); (try k_fold))
    | (refine PRest.zero ?_; intro h' tk' F' N'; (try k_sweep))
  k_with "TPost" => first | (dsimp only [TPost]) | (refine TPost.ret ?_; (try dsimp only)) | (refine TPost.next ?_) | (refine TPost.cont ?_)
  k_with "TEnd" => (refine TEnd.intro (by k_asm) (by k_asm) (by kd_subs) ?_)
  k_with "my bits" => first | k_extra "my bit" | exact Bits.mul (by k_extra "my bits") (by k_extra "my bits") | exact Bits.add (by k_extra "my bits") (by k_extra "my bits") | exact Bits.sub (by k_extra "my bits") (by k_extra "my bits") | exact Bits.neg (by k_extra "my bits") | exact Bits.lit (by decide)
  k_with "my bitsle" => exact Bits.mono (by k_extra "my bits") (by decide)
  k_with "mul_fits" => first | (refine Bits.ok (n := 8000) (m := 8000) ?_ ?_ (by decide) <;> assumption) | (refine Bits.ok (by k_extra "my bits") (by k_extra "my bits") (by decide))
  k_with "call type:zip" => (k_here; (with_reducible show wpAny _ _ (call (Value.type _) [Value.ref _, Value.ref _, Value.ref _]) (fun xv s₁ => wpAny _ _ (pyIter xv) (fun it s₂ => TurnsAt _ _ _ _ _ _ _ _ _ it s₂) _ s₁) _ _); k_dflt (refine' for_zip3 (by with_unfolding_all rfl) (by k_asm) (by k_asm) (by k_mem) (by k_mem) (by k_mem) (by exact rfl) (by exact rfl) rfl rfl rfl rfl ?_); (try dsimp only [trip3]))
  k_with "call type:tuple" => (k_here; (with_reducible show wpAny _ _ (call (Value.type _) [Value.ref _]) _ _ _); k_dflt (refine' call_tuple_tup (News.isTup (by k_asm) (by k_mem)) ?_))
  k_with "eval ListComp" => (k_here; (rename Fr _ _ _ _ => lF'); k_dflt (refine' comp_eval lF' rfl (by decide) rfl (by decide) ?_ (by intro _; rfl)))
  k_with "exec Assign cons ListComp" => (k_here; (rename Fr _ _ _ _ => lF'); k_dflt (refine' comp_assign lF' rfl rfl (by decide) rfl (by decide) rfl rfl ?_ (by intro _; rfl)))
  k_with "k_all" => first
    | exact List.forall_mem_nil _
    | assumption
    | (refine' List.forall_mem_cons.mpr ⟨?_, ?_⟩; (focus first | k_extra "my ne" | assumption | exact ne_gt (by ktn_lt) (by k_extra "kcj_q") | exact ne_lt (by ktn_lt) (by k_extra "kcj_q")); k_all)
    | (refine' List.forall_mem_append.mpr ⟨?_, ?_⟩; (focus k_all); k_all)
    | exact off_gt (by assumption) (by k_extra "kcj_q")
    | exact off_leS (by assumption) (by omega)
    | exact off_le (by ktn_lt) (by kd_subs) (by omega)
  k_with "k_upd" => first | exact Upd.head (by k_all) | ((with_reducible show Upd _ _ _ (_ :: _) _); exact Upd.tail (by k_extra "my ne") (by k_upd)) | (refine' upd_app ?_ ?_; (focus k_all); k_upd)
  k_with "k_updF" => first | exact UpdF.head (by k_all) | ((with_reducible show UpdF _ _ (_ :: _) _); exact UpdF.tail (by k_extra "my ne") (by k_updF)) | (refine' updF_app ?_ ?_; (focus k_all); k_updF)
  k_with "k_mem" => k_extra "kcj_q"
  k_with "pyIter ref" => (k_here; (with_reducible show wpAny _ _ (pyIter (Value.ref _)) (fun it s₂ => CompAt _ _ _ _ _ _ _ _ _ _ _ _ _ it s₂) _ _); k_dflt (refine' comp_range (by with_unfolding_all rfl) (by assumption) (by first | rfl | decide | exact small_of (by assumption)) (by first | rfl | exact Int.toNat_of_nonneg (by decide) | exact size_of _) (by k_asm) (by k_asm) rfl rfl (by first | decide | exact Nat.le_of_ble_eq_true rfl | exact LenOk.le (by assumption)) ?_); intro I' s9 hs9; (obtain ⟨h9, e9⟩ := hs9); subst e9; (try simp only [List.range, List.range.loop, List.map_cons, List.map_nil]); (try k_sweep))
  k_with "pyIter ref" => (k_here; (with_reducible show wpAny _ _ (pyIter (Value.ref _)) (fun it s₂ => CompAt _ _ _ _ _ _ _ _ _ _ _ _ _ it s₂) _ _); k_dflt (refine' comp_list (by with_unfolding_all rfl) (by k_asm) (by k_asm) (by k_mem) rfl rfl (by first | exact Nat.le_of_ble_eq_true rfl | exact LenOk.le (by assumption)) ?_); intro I' s9 hs9; (obtain ⟨h9, e9⟩ := hs9); subst e9; (try simp only [List.map_cons, List.map_nil]); (try k_sweep))
  k_with "pyIter ref" => (k_here; (with_reducible show wpAny _ _ (pyIter (Value.ref _)) (fun it s₂ => CompAt _ _ _ _ _ _ _ _ _ _ _ _ _ it s₂) _ _); k_dflt (refine' comp_tup (by with_unfolding_all rfl) (by k_asm) (by k_asm) (by k_mem) rfl rfl (by first | exact Nat.le_of_ble_eq_true rfl | exact LenOk.le (by assumption)) ?_); intro I' s9 hs9; (obtain ⟨h9, e9⟩ := hs9); subst e9; (try simp only [List.map_cons, List.map_nil]); (try k_sweep))
  k_with "call type:zip" => (k_here; (with_reducible show wpAny _ _ (call (Value.type _) [Value.ref _, Value.ref _, Value.ref _]) (fun xv s₁ => wpAny _ _ (pyIter xv) (fun it s₂ => CompAt _ _ _ _ _ _ _ _ _ _ _ _ _ it s₂) _ s₁) _ _); k_dflt (refine' comp_zip3 (by with_unfolding_all rfl) (by k_asm) (by k_asm) (by k_mem) (by k_mem) (by k_mem) (by exact rfl) (by exact rfl) (by exact Nat.le_of_ble_eq_true rfl) rfl rfl rfl rfl (by decide) (by decide) (by decide) ?_); intro I' s9 hs9; (obtain ⟨h9, e9⟩ := hs9); subst e9; (try dsimp only [trip3]); (try k_sweep))
  k_with "CRest" => first
    | (refine CRest.zero ?_)
    | (refine CRest.plain ?_; intro t' own' C' oC' D' m' h' tk' E' hC' hx' F' N' off' wo'; (first | (obtain ⟨hx1, hx2, hx3, _⟩ := hx'; (try dsimp only at hx1 hx2 hx3)) | (obtain ⟨hx1, _⟩ := hx'; (try dsimp only at hx1))); (try k_sweep); (try k_fold))
    | (refine CRest.test ?_; intro t' own' C' oC' D' m' h' tk' E' hC' hx' F' N' off' wo'; (first | (obtain ⟨hx1, hx2, hx3, _⟩ := hx'; (try dsimp only at hx1 hx2 hx3)) | (obtain ⟨hx1, _⟩ := hx'; (try dsimp only at hx1))); (try k_sweep); (try k_fold))
  k_with "my coff" => first
    | exact coff_nil
    | assumption
    | (with_reducible refine' coff_e (by assumption) (by k_extra "kcj_q") ?_; k_extra "my coff")
    | (with_reducible refine' coff_consW (by assumption) (by ktn_lt) (by k_extra "kcj_q") (by k_extra "kcj_q") (by kd_subs) ?_; k_extra "my coff")
    | (with_reducible refine' coff_app ?_ ?_; (focus k_extra "my coff"); k_extra "my coff")
    | (with_reducible refine' coff_sub (by assumption) (by kd_subs))
    | (with_reducible refine' coff_ordW (by assumption) (by assumption) (by k_extra "kcj_q") (by k_extra "kcj_q") (by kd_subs))
  k_with "CEnd" => (k_dflt (refine' cend (by k_asm) (by k_asm) (by k_extra "kcj_q") (by k_extra "kcj_q") (by kd_subs) (by repeat' (first | exact CS.base | refine' CS.skip ?_)) (by k_extra "my coff") ?_); (try simp only [List.nil_append, List.cons_append]))
  k_with "FinC" => (unfold FinC; intro D' h' tk' F' N' o1' l1'; (try dsimp only [PyProof.Rows.LCg.lst, List.length_cons, List.length_nil] at N'); (try simp only [AllLt, and_true] at l1'); (try dsimp only))
  k_with "FinS" => (unfold FinS; intro D' h' tk' F' N' o1' l1'; (try dsimp only [PyProof.Rows.LCg.lst, List.length_cons, List.length_nil] at N'); (try simp only [AllLt, and_true] at l1'); (try dsimp only))
  k_with "my sub" => (k_here; (with_reducible show wpAny _ _ (subscriptTail _ _ (Value.ref _) (Value.int _ _)) _ _ _); k_dflt (first
    | ((with_reducible show wpAny _ _ (subscriptTail _ _ (Value.ref _) (Value.int 0 _)) _ _ _); first | refine' item_tup0 (by k_asm) (by k_extra "kcj_q") ?_ (by with_unfolding_all rfl) | refine' item_tup0S (by k_asm) (by assumption) (by exact rfl) (by kd_subs) ?_ (by with_unfolding_all rfl))
    | (refine' item_tupS (by k_asm) (by assumption) (by exact rfl) (by kd_subs) (by decide) (by decide) (by exact rfl) (by exact rfl) ?_ (by with_unfolding_all rfl))
    | (refine' item_lstS (by k_asm) (by assumption) (by exact rfl) (by kd_subs) (by decide) (by decide) (by exact rfl) ?_ (by with_unfolding_all rfl))
    | (refine' item_lstNS (by k_asm) (by assumption) (by exact rfl) (by kd_subs) (by decide) (by decide) (by exact rfl) (by exact rfl) ?_ (by with_unfolding_all rfl))
    | (refine' item_lst (by k_asm) (by k_extra "kcj_q") (by decide) (by decide) (by exact rfl) ?_ (by with_unfolding_all rfl))
    | (refine' item_lstN (by k_asm) (by k_extra "kcj_q") (by decide) (by decide) (by exact rfl) (by exact rfl) ?_ (by with_unfolding_all rfl))))
  k_with "subscriptTail" => k_extra "my sub"
  k_with "subscriptTail Name" => k_extra "my sub"
  k_with "subscriptTail Subscript" => k_extra "my sub"
  k_with "subscriptTail Name Constant ref int" => k_extra "my sub"
  k_with "subscriptTail Name Name ref int" => k_extra "my sub"
  k_with "subscriptTail Name BinOp ref int" => k_extra "my sub"
  k_with "subscriptTail Name UnaryOp ref int" => k_extra "my sub"
  trivial
set_option maxRecDepth 100000 in
set_option maxHeartbeats 1000000 in
theorem ct_is {w : World} {mean : ExcName → Option Value} {mg mb : Str → Option Value} {news : Led} {told : Value} {q : Rat} {top bottom : Int} {t1 t2 : Tok} (dt : DatIn news told (qd q)) (sq : Bd 8000 q) (st : Bits 8000 top) (sb : Bits 8000 bottom)
    (h : q.num * bottom = top * (q.den : Int)) : Gives w mean mg mb 2 170 news [] [told, .int top t1, .int bottom t2] (fun _ r => r = .bool true) := by
  refine qd_elim (P := fun x => Gives w mean mg mb 2 170 news [] [x, .int top t1, .int bottom t2] (fun _ r => r = .bool true)) dt ?_
  intro aA an at1 at2 ma
  unfold Gives
  k_fill
  have hpos : 0 < (q.den : Int) := den_pos q
  have hM := kdMark
  intro dp un gd cn cs a ccd cl outer A₀ base h₀ L m s nw Q E B F X N T hk hn hd hu hret
  refine wpAny_call ?_
  k_dflt ktr_enter
  k_with "exec While Compare cons nil" => k_while_given ["one!", "other!"] (fun f0 s0 _ f s => 0 ≤ s ∧ 0 ≤ f ∧ Int.gcd f s = Int.gcd f0 s0) (fun _ _ _ _ s => s.toNat) "one" "other"
  k_with "state" => first | exact gcd_state (by assumption) (by assumption) | exact ⟨by omega, by (split <;> omega), rfl⟩
  k_with "measure" => exact gcd_less (by assumption)
  k_steps
  all_goals k_extra "my end0"
  · exact congrArg Value.bool (by rw [h]; exact beq_self_eq_true _)
  · exact congrArg Value.bool (beq_one (is_one (by assumption) (by assumption) (by assumption) (by assumption)))
end
section
theorem num_den (q : Rat) : ((q.num : Int) : Rat) = q * ((q.den : Int) : Rat) := by
  have h := Rat.num_divInt_den q
  have hd : ((q.den : Int) : Rat) ≠ 0 := by
    intro e
    have := Rat.intCast_inj.mp (e.trans (Rat.intCast_zero).symm)
    exact den_ne q this
  have h2 : ((q.num : Int) : Rat) / ((q.den : Int) : Rat) = q := by rw [← Rat.divInt_eq_div]; exact h
  have h3 := Rat.div_mul_cancel (a := ((q.num : Int) : Rat)) hd
  rw [h2] at h3
  exact h3.symm
theorem mix_rat (x a b t : Rat) (xd ad bd td : Rat) (h : x = a + t * (b - a)) : x * xd * (ad * bd * td) = (a * ad * bd * (td - t * td) + b * bd * ad * (t * td)) * xd := by
  subst h
  grind
theorem mix_eq (a b t : Rat) : (mx1 t a b).num * ((a.den : Int) * (b.den : Int) * (t.den : Int)) = (a.num * (b.den : Int) * ((t.den : Int) - t.num) + b.num * (a.den : Int) * t.num) * ((mx1 t a b).den : Int) := by
  have h := mix_rat (mx1 t a b) a b t ((mx1 t a b).den : Int) (a.den : Int) (b.den : Int) (t.den : Int) rfl
  rw [← num_den, ← num_den, ← num_den, ← num_den] at h
  have e : (((mx1 t a b).num * ((a.den : Int) * (b.den : Int) * (t.den : Int)) : Int) : Rat) = (((a.num * (b.den : Int) * ((t.den : Int) - t.num) + b.num * (a.den : Int) * t.num) * ((mx1 t a b).den : Int) : Int) : Rat) := by
    simp only [Rat.intCast_mul, Rat.intCast_add, Rat.intCast_sub]
    exact h
  exact Rat.intCast_inj.mp e
theorem reg7 : True := by
  k_with "call ref" => (k_here; k_dflt (refine' Gives.useB (by k_asm) (by k_asm) (by k_asm) (by k_asm) (by k_asm) (by first | exact rfl | assumption) (ct_is (by assumption) (by assumption) (by k_extra "my bitsle") (by k_extra "my bitsle") (by k_extra "my is")) (by kd_subs) (by k_extra "my room") (by k_extra "my units") ?_); intro h9 tk9 F9 N9; (try k_sweep); (try dsimp only); (try k_fold))
  k_with "my is" => exact mix_eq _ _ _
  trivial
set_option maxRecDepth 100000 in
set_option maxHeartbeats 1000000 in
theorem ct_between {w : World} {mean : ExcName → Option Value} {mg mb : Str → Option Value} {news : Led} {told vp vq vt : Value} {p q : Pt} {t : Rat} (dto : DatIn news told (pd (mx t p q))) (dp9 : DatIn news vp (pd p)) (dq9 : DatIn news vq (pd q)) (dt9 : DatIn news vt (qd t))
    (so : Bp 8000 (mx t p q)) (sp : Bp 900 p) (sq : Bp 900 q) (st : Bd 100 t) :
    Gives w mean mg mb 6 177 news [] [told, vp, vq, vt] (fun _ r => r = .bool true) := by
  refine pd_elim (P := fun x => Gives w mean mg mb 6 177 news [] [x, vp, vq, vt] (fun _ r => r = .bool true)) dto ?_
  intro oA on ox oy mo dox doy
  refine pt_elim (P := fun x => Gives w mean mg mb 6 177 news [] [.ref oA, x, vq, vt] (fun _ r => r = .bool true)) dp9 ?_
  intro pA pn xA yA xn yn xt1 xt2 yt1 yt2 mp mpx mpy
  refine pt_elim (P := fun x => Gives w mean mg mb 6 177 news [] [.ref oA, .ref pA, x, vt] (fun _ r => r = .bool true)) dq9 ?_
  intro qA qn uA vA un' vn ut1 ut2 vt1 vt2 mq mqx mqy
  refine qd_elim (P := fun x => Gives w mean mg mb 6 177 news [] [.ref oA, .ref pA, .ref qA, x] (fun _ r => r = .bool true)) dt9 ?_
  intro tA tn tt1 tt2 mt
  obtain ⟨so1, so2⟩ := so
  unfold Gives
  k_fill
  have hM := kdMark
  intro dp un gd cn cs a ccd cl outer A₀ base h₀ L m s nw Q E B F X N T hk hn hd hu hret
  refine wpAny_call ?_
  k_dflt ktr_enter
  k_steps
  all_goals (k_extra "my end0"; exact rfl)
end
section
theorem way_rat (x a b : Rat) (xd ad bd : Rat) (h : x = b - a) : x * xd * (ad * bd) = (b * bd * ad - a * ad * bd) * xd := by
  subst h
  grind
theorem way_eq (a b : Rat) : (b - a).num * ((a.den : Int) * (b.den : Int)) = (b.num * (a.den : Int) - a.num * (b.den : Int)) * ((b - a).den : Int) := by
  have h := way_rat (b - a) a b ((b - a).den : Int) (a.den : Int) (b.den : Int) rfl
  rw [← num_den, ← num_den, ← num_den] at h
  have e : (((b - a).num * ((a.den : Int) * (b.den : Int)) : Int) : Rat) = (((b.num * (a.den : Int) - a.num * (b.den : Int)) * ((b - a).den : Int) : Int) : Rat) := by
    simp only [Rat.intCast_mul, Rat.intCast_add, Rat.intCast_sub]
    exact h
  exact Rat.intCast_inj.mp e
theorem nils_eq {prog : Program} {w : World} {A : Around} {E : Value → Shared → Prop} {s : Shared} {h₀ : Heap} {L : Addr} {news : Led} {a b : Addr} {n k : Nat} {Q : Value → Shared → Prop} (N : News h₀ L s.heap news)
    (ha : (a, ({ cls := .type "list", data := .seq #[] n } : Obj)) ∈ news) (hb : (b, W.listOf #[] k) ∈ news) (hu : A.units + 64 < cLine)
    (h : Q (.bool true) s) : wpAny (model prog w) A (compareOp .Eq (.ref a) (.ref b)) Q E s :=
  dat_eq (d := .list []) (e := .list []) True N (DatIn.list (vs := []) ha DatAll.nil) (fun _ h => h) (DatIn.list (vs := []) hb DatAll.nil) (fun _ h => h) (by decide) (by decide) (by simp) hu h
theorem reg8 : True := by
  k_with "my is" => exact way_eq _ _
  k_with "compareOp Eq ref ref" => (k_here; k_dflt (refine' nils_eq (by k_asm) (by k_extra "kcj_q") (by k_extra "kcj_q") (by k_extra "my units") ?_))
  trivial
set_option maxRecDepth 100000 in
set_option maxHeartbeats 1000000 in
theorem ct_way {w : World} {mean : ExcName → Option Value} {mg mb : Str → Option Value} {news : Led} {told vp vq : Value} {p q : Pt} (dto : DatIn news told (pd (psub q p))) (dp9 : DatIn news vp (pd p)) (dq9 : DatIn news vq (pd q))
    (so : Bp 8000 (psub q p)) (sp : Bp 900 p) (sq : Bp 900 q) :
    Gives w mean mg mb 14 187 news [] [told, vp, vq] (fun _ r => r = .bool true) := by
  refine pd_elim (P := fun x => Gives w mean mg mb 14 187 news [] [x, vp, vq] (fun _ r => r = .bool true)) dto ?_
  intro oA on ox oy mo dox doy
  refine pt_elim (P := fun x => Gives w mean mg mb 14 187 news [] [.ref oA, x, vq] (fun _ r => r = .bool true)) dp9 ?_
  intro pA pn xA yA xn yn xt1 xt2 yt1 yt2 mp mpx mpy
  refine pt_elim (P := fun x => Gives w mean mg mb 14 187 news [] [.ref oA, .ref pA, x] (fun _ r => r = .bool true)) dq9 ?_
  intro qA qn uA vA un' vn ut1 ut2 vt1 vt2 mq mqx mqy
  obtain ⟨so1, so2⟩ := so
  unfold Gives
  k_fill
  have hM := kdMark
  intro dp un gd cn cs a ccd cl outer A₀ base h₀ L m s nw Q E B F X N T hk hn hd hu hret
  refine wpAny_call ?_
  k_dflt ktr_enter
  k_steps
  all_goals (try (k_extra "my end0"; exact rfl))
  all_goals (try trace_state)
  all_goals w_report
end
section
def nxt (t : Rat) : List Pt → List Pt
  | a :: b :: r => mx t a b :: nxt t (b :: r)
  | _ => []
theorem nxt_len (t : Rat) : ∀ c : List Pt, (nxt t c).length = c.length - 1
  | [] => rfl
  | [_] => rfl
  | a :: b :: r => by
    have := nxt_len t (b :: r)
    simp only [nxt, List.length_cons] at *
    omega
def rowsN (t : Rat) : Nat → List Pt → List (List Pt)
  | 0, c => [c]
  | n + 1, c => c :: rowsN t n (nxt t c)
theorem Bp.mxk {n m k : Nat} {t : Rat} {p q : Pt} (ht : Bd m t) (hp : Bp n p) (hq : Bp n q) (h : 12 * n + 2 * m + 4 ≤ k) : Bp k (Mine.mx t p q) :=
  ⟨(Bp.mx ht hp hq).1.mono h, (Bp.mx ht hp hq).2.mono h⟩
theorem Bp.mono {n m : Nat} {p : Pt} (h : Bp n p) (k : n ≤ m) : Bp m p := ⟨h.1.mono k, h.2.mono k⟩
def bnd : Nat → Nat
  | 4 => 3
  | 3 => 44
  | 2 => 536
  | _ => 6440
theorem nxt_bp {t : Rat} (ht : Bd 2 t) : ∀ {c : List Pt} {n k : Nat}, 12 * n + 8 ≤ k → (∀ q ∈ c, Bp n q) → ∀ q ∈ nxt t c, Bp k q
  | [], _, _, _, _ => fun q hq => by simp [nxt] at hq
  | [_], _, _, _, _ => fun q hq => by simp [nxt] at hq
  | a :: b :: r, n, k, hk, hb => fun q hq => by
    rcases List.mem_cons.mp hq with rfl | hq
    · exact Bp.mxk ht (hb _ (.head _)) (hb _ (.tail _ (.head _))) (by omega)
    · exact nxt_bp ht hk (fun q hq => hb q (.tail _ hq)) q hq
theorem nxt_get (t : Rat) : ∀ {c : List Pt} {i : Nat} {a b : Pt}, c[i]? = some a → c[i + 1]? = some b → (nxt t c)[i]? = some (mx t a b)
  | [], _, _, _, h, _ => by simp at h
  | [_], _, _, _, _, h => by simp at h
  | x :: y :: r, 0, a, b, h1, h2 => by
    simp at h1 h2
    subst h1; subst h2
    rfl
  | x :: y :: r, i + 1, a, b, h1, h2 => by
    have := nxt_get t (c := y :: r) (i := i) (a := a) (b := b) (by simpa using h1) (by simpa using h2)
    simpa [nxt] using this
/-- what holds at each turn of steps_of's while -/
def JS (m₀ : Str → Option Value) (D ct ca : Addr) (oT : Obj) (base nw news : Led) (t : Rat) (all : List (List Pt)) (k : Nat) (m₁ : Str → Option Value) (l : Led) : Prop :=
  m₁ = m₀ ∧ ∃ us n oA ov tl pre cur, l = (D, W.listOf (List.toArray us) n) :: (ca, oA) :: (ct, oT) :: (tl ++ nw) ∧ oA.data = .cell ov ∧ Ord base tl ∧ DatAll (news ++ tl) us ((pre ++ [cur]).map cvd) ∧ cur.length = k ∧ 1 ≤ k ∧ k ≤ 4 ∧ pre.length + k ≤ 4 ∧ all = pre ++ rowsN t (k - 1) cur ∧ (∀ q ∈ cur, Bp (bnd k) q)
def datAt (l : List Pt) (i : Nat) : Dat := match l[i]? with | some q => pd q | none => .none
theorem datAt_some {l : List Pt} {i : Nat} {q : Pt} (h : l[i]? = some q) : datAt l i = pd q := by unfold datAt; rw [h]
theorem datAt_all : ∀ l : List Pt, (List.range l.length).map (datAt l) = l.map pd
  | [] => rfl
  | p :: l => by
    rw [List.length_cons, List.range_succ_eq_map, List.map_cons, List.map_map, List.map_cons]
    have : (datAt (p :: l) ∘ Nat.succ) = datAt l := by
      funext i
      simp [datAt]
    rw [this, datAt_all l]
    rfl
theorem at_dat {n : Led} {vs : List Value} {l : List Pt} {i : Nat} {q : Pt} (h : DatAll n vs (l.map pd)) (k : l[i]? = some q) : ∃ v, vs[i]? = some v ∧ DatIn n v (pd q) := by
  have hi : i < (l.map pd).length := by rw [List.length_map]; exact (List.getElem?_eq_some_iff.mp k).1
  obtain ⟨v, hv, hd⟩ := h.get hi
  refine ⟨v, hv, ?_⟩
  have e : (l.map pd)[i] = pd q := by
    rw [List.getElem_map]
    congr 1
    exact (List.getElem?_eq_some_iff.mp k).2
  rw [e] at hd
  exact hd
theorem Bp.at {n : Nat} {c : List Pt} (h : ∀ q ∈ c, Bp n q) {i : Nat} {q : Pt} (k : c[i]? = some q) : Bp n q := h q (List.mem_of_getElem? k)
theorem Ord.addr {big base tl : Led} (h : Ord big tl) (k : ∀ q ∈ base, ∃ o, (q.1, o) ∈ big) : Ord base tl := fun q hq p hp => by
  obtain ⟨o, ho⟩ := k q hq
  exact h _ ho p hp
theorem reg9 : True := by
  k_with_none
  k_with "kcj_q" => first
    | exact List.mem_cons_self
    | (refine List.mem_cons_of_mem _ ?_; k_extra "kcj_q")
    | (refine List.mem_append.mpr (Or.inr ?_); k_extra "kcj_q")
    | (refine List.mem_append.mpr (Or.inl ?_); k_extra "kcj_q")
    | assumption
    | exact sub_use (by assumption) (by assumption)
  k_with "kd_suf" => first
    | with_reducible exact fun _ h => h
    | (refine sub_cons ?_; k_extra "kd_suf")
    | (refine sub_appR ?_; k_extra "kd_suf")
  k_with "kd_subs" => first
    | k_extra "kd_suf"
    | exact List.forall_mem_nil _
    | assumption
    | (refine List.forall_mem_cons.mpr ⟨?_, ?_⟩; (focus k_extra "kcj_q"); kd_subs)
    | (refine List.forall_mem_append.mpr ⟨?_, ?_⟩; (focus kd_subs); kd_subs)
    | (refine sub_cons ?_; kd_subs)
    | (refine sub_appR ?_; kd_subs)
    | (refine sub_appL ?_; kd_subs)
  k_with "ktn_lt" => first | assumption | exact allLt_of (by assumption) | exact alt1 (by assumption) | exact alt2 (by assumption) | exact alt3 (by assumption) | exact alt4 (by assumption) | exact alt5 (by assumption) | exact alt6 (by assumption)
  k_with "ktn_ord" => first
    | exact Ord.nil
    | assumption
    | (refine Ord.app ?_ ?_ <;> ktn_ord)
    | (refine Ord.lt (by ktn_lt) ?_ ?_; (focus kcj_in); ktn_ord)
    | (refine Ord.le (by ktn_lt) ?_ (by omega) ?_; (focus kcj_in); ktn_ord)
    | (refine Ord.sub (by assumption) ?_; kcj_in)
  k_with "ktr_rel" => first | assumption | (refine DatIn.mono ?_ (by assumption); kd_subs)
  k_with "ktr_enter" => first
    | (refine' code_def (by k_asm) (by k_asm) (by k_asm) (by k_asm) (by k_asm) rfl rfl (by first | assumption | exact rfl) (by k_is) (by k_is) (by k_extra "my room") (by first | exact BindsTo.of_eq rfl | exact binds_K (by k_in) rfl (by k_is) rfl rfl rfl | fail "no rule for these arguments") (locs rfl) ?_ rfl rfl rfl (by decide); k_whole; intro g' L' h' FG' F' N' B' X' T'; (try dsimp only); (try k_fold))
    | (refine' code_defC (by k_asm) (by k_asm) (by k_asm) (by k_asm) (by k_asm) rfl rfl (by first | assumption | exact rfl) (by k_is) (by k_is) (by k_extra "my room") (by first | exact BindsTo.of_eq rfl | exact binds_K (by k_in) rfl (by k_is) rfl rfl rfl | fail "no rule for these arguments") rfl (by decide +kernel) ?_ rfl rfl rfl; k_whole; intro g' L' h' tk' cells' FG' F' N' Y' B' X' T' l1; (try k_lt l1); k_cells Y'; (try simp only [List.cons_append, List.nil_append] at N'); (try dsimp only); (try k_fold))
  k_with "my gend" => (refine' gend (by assumption) (by assumption) (by assumption) (by repeat' (first | exact Split.base0 | refine' Split.skip ?_ | refine' Split.appO (by assumption) ?_ | refine' Split.own ?_)) (by ktn_ord) ?_)
  k_with "my end0" => (refine' gend0 (by assumption) (by assumption) (by assumption) (by kd_subs) ?_; (try unfold Says))
  k_with "my dats" => first | exact DatAll.nil | assumption | (refine DatAll.mono ?_ (by assumption); kd_subs) | (refine DatAll.cons ?_ ?_; (focus k_extra "my dat"); k_extra "my dats")
  k_with "my dat" => first
    | exact DatIn.int _ _
    | assumption
    | (refine DatIn.mono ?_ (by assumption); kd_subs)
    | exact DatIn.tuple (by k_extra "kcj_q") (by k_extra "my dats")
    | exact DatIn.list (by k_extra "kcj_q") (by k_extra "my dats")
  k_with "my rel" => (refine DatIn.mono ?_ (by assumption); kd_subs)
  k_with "my room" => first | exact room1 (by assumption) (by exact rfl) | exact room0 (by assumption) (by exact rfl) | ktr_room
  k_with "my units" => first | exact units1 (by assumption) (by exact rfl) | exact units0 (by assumption) (by exact rfl) | ktr_units
  k_with "my ne" => first | exact ne_gtR (by assumption) (by k_extra "kcj_q") | exact ne_ltR (by assumption) (by k_extra "kcj_q") | k_ne
  k_with "newTuple" => (k_here; k_dflt (refine' kup_newTuple (by k_asm) (by k_asm) ?_ (by kmk_size)); intro D' h' F' N' l1; (try k_sweep))
  k_with "newList" => (k_here; k_dflt (refine' newList_K (by k_asm) (by k_asm) ?_ (by size_fits)); intro l' h' F' N' l1; (try k_sweep))
  k_with "my evv" => first
    | ((with_reducible show Ev _ _ _ _ _ (PySem.Expr.Name _ _) _); exact ev_name (by k_asm) (by exact rfl) (by exact rfl) (by exact rfl) (by decide))
    | ((with_reducible show Ev _ _ _ _ _ (PySem.Expr.Subscript _ (PySem.Expr.Constant _ _ _) _) _); exact ev_item (by k_asm) (by k_extra "my evv") (by k_extra "kcj_q") (by decide) (by exact rfl) (by exact rfl))
  k_with "my ev" => first
    | ((with_reducible show Ev _ _ _ _ _ (PySem.Expr.Constant _ _ _) _); exact ev_int)
    | ((with_reducible show Ev _ _ _ _ _ (PySem.Expr.Name _ _) _); exact ev_nameI (by k_asm) (by exact rfl) (by exact rfl) (by exact rfl) (by decide))
    | ((with_reducible show Ev _ _ _ _ _ (PySem.Expr.Subscript _ (PySem.Expr.Constant _ _ _) _) _); exact ev_itemI (by k_asm) (by k_extra "my evv") (by k_extra "kcj_q") (by decide) (by exact rfl) (by exact rfl))
    | ((with_reducible show Ev _ _ _ _ _ (PySem.Expr.BinOp _ PySem.Operator.Mult _ _) _); exact ev_mul (by k_extra "my ev") (by k_extra "my ev") (by mul_fits))
    | ((with_reducible show Ev _ _ _ _ _ (PySem.Expr.BinOp _ PySem.Operator.Add _ _) _); exact ev_add (by k_extra "my ev") (by k_extra "my ev"))
    | ((with_reducible show Ev _ _ _ _ _ (PySem.Expr.BinOp _ PySem.Operator.Sub _ _) _); exact ev_sub (by k_extra "my ev") (by k_extra "my ev"))
    | ((with_reducible show Ev _ _ _ _ _ (PySem.Expr.UnaryOp PySem.UnaryOp.USub _ _) _); exact ev_neg (by k_extra "my ev"))
  k_with "eval BinOp" => (k_here; k_dflt (refine' ev_runI (by k_extra "my ev") ?_); intro t' tk'; (try dsimp only))
  k_with "eval UnaryOp" => (k_here; (with_reducible show wpAny _ _ (eval (PySem.Expr.UnaryOp _ (PySem.Expr.Subscript _ _ _) _) _) _ _ _); k_dflt (refine' ev_runI (by k_extra "my ev") ?_); intro t' tk'; (try dsimp only))
  k_with "eval Subscript" => (k_here; k_dflt (refine' ev_runV (by k_extra "my evv") ?_); intro tk'; (try dsimp only))
  k_with "my bit" => first | assumption | exact Bd.nu (by assumption) | exact Bd.de (by assumption) | (k_dflt (first | exact bp_nx (by assumption) | exact bp_dx (by assumption) | exact bp_ny (by assumption) | exact bp_dy (by assumption)))
  k_with "my lit" => first
    | ((with_reducible show LitD (PySem.Expr.Constant (PySem.Const.int _) _ _) _); exact lit_int)
    | ((with_reducible show LitD (PySem.Expr.Constant (PySem.Const.str _) _ _) _); exact lit_str)
    | ((with_reducible show LitD (PySem.Expr.UnaryOp PySem.UnaryOp.USub (PySem.Expr.Constant (PySem.Const.int _) _ _) _) _); exact lit_neg)
    | ((with_reducible show LitD (PySem.Expr.Tuple _ _ _) _); exact lit_tuple (by k_extra "my lits") (by exact Nat.le_of_ble_eq_true rfl))
    | ((with_reducible show LitD (PySem.Expr.List _ _) _); exact lit_list (by k_extra "my lits") (by exact Nat.le_of_ble_eq_true rfl))
  k_with "my lits" => first
    | ((with_reducible show LitA [] _); exact litA_nil)
    | ((with_reducible show LitA (_ :: _) _); exact litA_cons (by k_extra "my lit") (by k_extra "my lits"))
  k_with "my dvs" => first
    | ((with_reducible show DvA _ _ _ _ _ _ _ _ [] _); exact dvA_nil)
    | ((with_reducible show DvA _ _ _ _ _ _ _ _ (_ :: _) _); exact dvA_cons (by k_extra "my dv") (by k_extra "my dvs"))
  k_with "my dv" => first
    | ((with_reducible show Dv _ _ _ _ _ _ _ _ (PySem.Expr.Name _ _) _); exact dv_name (by exact rfl) (by k_extra "my dat") (by exact rfl) (by exact rfl) (by decide))
    | ((with_reducible show Dv _ _ _ _ _ _ _ _ (PySem.Expr.Constant _ _ _) _); exact dv_lit (by k_extra "my lit"))
    | ((with_reducible show Dv _ _ _ _ _ _ _ _ (PySem.Expr.Subscript _ (PySem.Expr.Constant _ _ _) _) _); first | exact dv_item (by k_extra "my dv") (by decide) (by exact rfl) (by exact rfl) | exact dv_item0 (by k_extra "my dv"))
    | ((with_reducible show Dv _ _ _ _ _ _ _ _ (PySem.Expr.Tuple _ _ _) _); first | exact dv_lit (by k_extra "my lit") | exact dv_tuple (by k_extra "my dvs") (by exact Nat.le_of_ble_eq_true rfl))
    | ((with_reducible show Dv _ _ _ _ _ _ _ _ (PySem.Expr.List _ _) _); exact dv_lit (by k_extra "my lit"))
    | ((with_reducible show Dv _ _ _ _ _ _ _ _ (PySem.Expr.BinOp _ PySem.Operator.Mult _ _) _); exact dv_mul (by k_extra "my dv") (by k_extra "my dv") (by mul_fits))
    | ((with_reducible show Dv _ _ _ _ _ _ _ _ (PySem.Expr.BinOp _ PySem.Operator.Add _ _) _); exact dv_add (by k_extra "my dv") (by k_extra "my dv"))
    | ((with_reducible show Dv _ _ _ _ _ _ _ _ (PySem.Expr.BinOp _ PySem.Operator.Sub _ _) _); exact dv_sub (by k_extra "my dv") (by k_extra "my dv"))
    | ((with_reducible show Dv _ _ _ _ _ _ _ _ (PySem.Expr.UnaryOp PySem.UnaryOp.USub _ _) _); exact dv_neg (by k_extra "my dv"))
    | ((with_reducible show Dv _ _ _ _ _ _ _ _ (PySem.Expr.Call _ _ _ _) _); exact dv_call (by k_asm) (by k_asm) (by k_asm) (by exact rfl) (by k_extra "my fn") (by k_is) (by exact rfl) (by k_extra "my dv") (by k_extra "my dvs") (by exact rfl) (by k_extra "my con") (by k_extra "my room") (by k_extra "my units"))
  k_with "eval Call" => (k_here; k_dflt (refine Wq.out ?_; refine' dv_runB (by assumption) (by k_asm) (by k_asm) (by kd_subs) (by kd_subs) (by k_extra "my dv") ?_); intro v9 t9 h9 tk9 F9 N9 O9 D9; (have hB9 := baseOf (by assumption) D9); (try k_dflt (k_extra "my got")); (try k_sweep))
  k_with "eval Tuple" => (k_here; k_dflt (refine Wq.out ?_; refine' dv_runB (by assumption) (by k_asm) (by k_asm) (by kd_subs) (by kd_subs) (by k_extra "my dv") ?_); intro v9 t9 h9 tk9 F9 N9 O9 D9; (have hB9 := baseOf (by assumption) D9); (try k_dflt (k_extra "my got")); (try k_sweep))
  k_with "eval List" => (k_here; k_dflt (refine Wq.out ?_; refine' dv_runB (by assumption) (by k_asm) (by k_asm) (by kd_subs) (by kd_subs) (by k_extra "my dv") ?_); intro v9 t9 h9 tk9 F9 N9 O9 D9; (have hB9 := baseOf (by assumption) D9); (try k_dflt (k_extra "my got")); (try k_sweep))
  k_with "exec Assign" => (k_here; (with_reducible show wpAny _ _ (exec (PySem.Stmt.Assign [PySem.Expr.Tuple [PySem.Expr.Name _ _, PySem.Expr.Name _ _] _ _] _ _) _) _ _ _); k_dflt (refine Wq.out ?_; refine' dv_pair (by assumption) (by k_asm) (by k_asm) (by kd_subs) (by kd_subs) (by k_extra "my dv") (by with_unfolding_all rfl) (by exact rfl) (by exact rfl) (by exact rfl) (by exact rfl) (by exact rfl) ?_); intro vx9 vy9 t9 h9 tk9 F9 N9 O9 D9 E9; (have hB9 := baseOf (by assumption) D9); (try k_sweep))
  k_with "exec Return some" => (k_here; k_dflt (refine Wq.out ?_; refine' dv_ret (by assumption) (by k_asm) (by k_asm) (by kd_subs) (by kd_subs) (by k_extra "my dv") ?_); intro v9 t9 h9 tk9 F9 N9 O9 D9; (try k_sweep))
  k_with "exec Assign" => (k_here; (with_reducible show wpAny _ _ (exec (PySem.Stmt.Assign [PySem.Expr.Name _ _] _ _) _) _ _ _); k_dflt (refine Wq.out ?_; refine' dv_set (by assumption) (by k_asm) (by k_asm) (by kd_subs) (by kd_subs) (by k_extra "my dv") (by exact rfl) (by exact rfl) (by exact rfl) ?_); intro v9 t9 h9 tk9 F9 N9 O9 D9; (have hB9 := baseOf (by assumption) D9); (try k_dflt (k_extra "my got")); (try k_sweep))
  k_with "my fn" => first
    | ((with_reducible show FnAt _ _ _ _ _ (compEnvC _ _ _ _) _ _); exact fnC (by k_asm) (by k_asm) (by k_is) (by exact rfl) (by exact rfl) (by exact rfl) (by decide))
    | exact fnX (by k_asm) (by k_asm) (by exact rfl) (by k_is) (by exact rfl) (by decide)
  k_with "subscriptTail Name Slice ref ref" => (k_here; (with_reducible show wpAny _ _ (subscriptTail _ (PySem.Expr.Slice none none (some _) _) (Value.ref _) (Value.ref _)) _ _ _); k_dflt (refine' tup_rev (by k_asm) (by k_asm) (by k_mem) rfl ?_ (by with_unfolding_all rfl) (by kmk_pure) (by first | exact Nat.le_of_ble_eq_true rfl | exact LenOk.le (by assumption))); intro D' h' F' N' l1; (try k_sweep))
  k_with "subscriptTail Name Slice ref ref" => (k_here; (with_reducible show wpAny _ _ (subscriptTail _ (PySem.Expr.Slice (some _) none none _) (Value.ref _) (Value.ref _)) _ _ _); k_dflt (refine' tup_tail (by k_asm) (by k_asm) (by k_mem) ?_ (by with_unfolding_all rfl) (by kmk_pure) (by first | exact Nat.le_of_ble_eq_true rfl | exact LenOk.le (by assumption))); intro D' h' F' N' l1; (try k_sweep))
  k_with "exec For" => (k_here; (rename Fr _ _ _ _ => lF'); (with_unfolding_all refine' For_turns lF' ?_; k_whole))
  k_with "exec For Name Subscript cons nil" => (k_here; (rename Fr _ _ _ _ => lF'); (with_unfolding_all refine' For_turns lF' ?_; k_whole))
  k_with "exec For Tuple Call cons nil" => (k_here; (rename Fr _ _ _ _ => lF'); (with_unfolding_all refine' For_turns lF' ?_; k_whole))
  k_with "exec For Name Call cons nil" => (k_here; (rename Fr _ _ _ _ => lF'); (with_unfolding_all refine' For_turns lF' ?_; k_whole))
  k_with "exec For Name Call cons cons" => (k_here; (rename Fr _ _ _ _ => lF'); (with_unfolding_all refine' For_turns lF' ?_; k_whole))
  k_with "pyIter ref" => (k_here; (with_reducible show wpAny _ _ (pyIter (Value.ref _)) (fun it s₂ => TurnsAt _ _ _ _ _ _ _ _ _ it s₂) _ _); k_dflt (refine' for_tup (by with_unfolding_all rfl) (by k_asm) (by k_asm) (by k_mem) rfl rfl ?_); (try dsimp only [List.map_cons, List.map_nil]))
  k_with "PRest" => first
    | (refine PRest.succ ?_; intro t' own' h' tk' F' N'; (try simp only [bindB] at F'); (try k_sweep); (try k_fold))
    | (refine PRest.zero ?_; intro h' tk' F' N'; (try k_sweep))
  k_with "TPost" => first | (dsimp only [TPost]) | (refine TPost.ret ?_; (try dsimp only)) | (refine TPost.next ?_) | (refine TPost.cont ?_)
  k_with "TEnd" => (refine TEnd.intro (by k_asm) (by k_asm) (by kd_subs) ?_)
  k_with "my bits" => first | k_extra "my bit" | exact Bits.mul (by k_extra "my bits") (by k_extra "my bits") | exact Bits.add (by k_extra "my bits") (by k_extra "my bits") | exact Bits.sub (by k_extra "my bits") (by k_extra "my bits") | exact Bits.neg (by k_extra "my bits") | exact Bits.lit (by decide)
  k_with "my bitsle" => exact Bits.mono (by k_extra "my bits") (by decide)
  k_with "mul_fits" => first | (refine Bits.ok (n := 8000) (m := 8000) ?_ ?_ (by decide) <;> assumption) | (refine Bits.ok (by k_extra "my bits") (by k_extra "my bits") (by decide))
  k_with "call type:zip" => (k_here; (with_reducible show wpAny _ _ (call (Value.type _) [Value.ref _, Value.ref _, Value.ref _]) (fun xv s₁ => wpAny _ _ (pyIter xv) (fun it s₂ => TurnsAt _ _ _ _ _ _ _ _ _ it s₂) _ s₁) _ _); k_dflt (refine' for_zip3 (by with_unfolding_all rfl) (by k_asm) (by k_asm) (by k_mem) (by k_mem) (by k_mem) (by exact rfl) (by exact rfl) rfl rfl rfl rfl ?_); (try dsimp only [trip3]))
  k_with "call type:tuple" => (k_here; (with_reducible show wpAny _ _ (call (Value.type _) [Value.ref _]) _ _ _); k_dflt (refine' call_tuple_tup (News.isTup (by k_asm) (by k_mem)) ?_))
  k_with "eval ListComp" => (k_here; (rename Fr _ _ _ _ => lF'); k_dflt (refine' comp_eval lF' rfl (by decide) rfl (by decide) ?_ (by intro _; rfl)))
  k_with "exec Assign cons ListComp" => (k_here; (rename Fr _ _ _ _ => lF'); k_dflt (refine' comp_assign lF' rfl rfl (by decide) rfl (by decide) rfl rfl ?_ (by intro _; rfl)))
  k_with "k_all" => first
    | exact List.forall_mem_nil _
    | assumption
    | (refine' List.forall_mem_cons.mpr ⟨?_, ?_⟩; (focus first | k_extra "my ne" | assumption | exact ne_gt (by ktn_lt) (by k_extra "kcj_q") | exact ne_lt (by ktn_lt) (by k_extra "kcj_q")); k_all)
    | (refine' List.forall_mem_append.mpr ⟨?_, ?_⟩; (focus k_all); k_all)
    | exact off_gt (by assumption) (by k_extra "kcj_q")
    | exact off_leS (by assumption) (by omega)
    | exact off_le (by ktn_lt) (by kd_subs) (by omega)
  k_with "k_upd" => first | exact Upd.head (by k_all) | ((with_reducible show Upd _ _ _ (_ :: _) _); exact Upd.tail (by k_extra "my ne") (by k_upd)) | (refine' upd_app ?_ ?_; (focus k_all); k_upd)
  k_with "k_updF" => first | exact UpdF.head (by k_all) | ((with_reducible show UpdF _ _ (_ :: _) _); exact UpdF.tail (by k_extra "my ne") (by k_updF)) | (refine' updF_app ?_ ?_; (focus k_all); k_updF)
  k_with "k_mem" => k_extra "kcj_q"
  k_with "pyIter ref" => (k_here; (with_reducible show wpAny _ _ (pyIter (Value.ref _)) (fun it s₂ => CompAt _ _ _ _ _ _ _ _ _ _ _ _ _ it s₂) _ _); k_dflt (refine' comp_range (by with_unfolding_all rfl) (by assumption) (by first | rfl | decide | exact small_of (by assumption)) (by first | rfl | exact Int.toNat_of_nonneg (by decide) | exact size_of _) (by k_asm) (by k_asm) rfl rfl (by first | decide | exact Nat.le_of_ble_eq_true rfl | exact LenOk.le (by assumption)) ?_); intro I' s9 hs9; (obtain ⟨h9, e9⟩ := hs9); subst e9; (try simp only [List.range, List.range.loop, List.map_cons, List.map_nil]); (try k_sweep))
  k_with "pyIter ref" => (k_here; (with_reducible show wpAny _ _ (pyIter (Value.ref _)) (fun it s₂ => CompAt _ _ _ _ _ _ _ _ _ _ _ _ _ it s₂) _ _); k_dflt (refine' comp_list (by with_unfolding_all rfl) (by k_asm) (by k_asm) (by k_mem) rfl rfl (by first | exact Nat.le_of_ble_eq_true rfl | exact LenOk.le (by assumption)) ?_); intro I' s9 hs9; (obtain ⟨h9, e9⟩ := hs9); subst e9; (try simp only [List.map_cons, List.map_nil]); (try k_sweep))
  k_with "pyIter ref" => (k_here; (with_reducible show wpAny _ _ (pyIter (Value.ref _)) (fun it s₂ => CompAt _ _ _ _ _ _ _ _ _ _ _ _ _ it s₂) _ _); k_dflt (refine' comp_tup (by with_unfolding_all rfl) (by k_asm) (by k_asm) (by k_mem) rfl rfl (by first | exact Nat.le_of_ble_eq_true rfl | exact LenOk.le (by assumption)) ?_); intro I' s9 hs9; (obtain ⟨h9, e9⟩ := hs9); subst e9; (try simp only [List.map_cons, List.map_nil]); (try k_sweep))
  k_with "call type:zip" => (k_here; (with_reducible show wpAny _ _ (call (Value.type _) [Value.ref _, Value.ref _, Value.ref _]) (fun xv s₁ => wpAny _ _ (pyIter xv) (fun it s₂ => CompAt _ _ _ _ _ _ _ _ _ _ _ _ _ it s₂) _ s₁) _ _); k_dflt (refine' comp_zip3 (by with_unfolding_all rfl) (by k_asm) (by k_asm) (by k_mem) (by k_mem) (by k_mem) (by exact rfl) (by exact rfl) (by exact Nat.le_of_ble_eq_true rfl) rfl rfl rfl rfl (by decide) (by decide) (by decide) ?_); intro I' s9 hs9; (obtain ⟨h9, e9⟩ := hs9); subst e9; (try dsimp only [trip3]); (try k_sweep))
  k_with "CRest" => first
    | (refine CRest.zero ?_)
    | (refine CRest.plain ?_; intro t' own' C' oC' D' m' h' tk' E' hC' hx' F' N' off' wo'; (first | (obtain ⟨hx1, hx2, hx3, _⟩ := hx'; (try dsimp only at hx1 hx2 hx3)) | (obtain ⟨hx1, _⟩ := hx'; (try dsimp only at hx1))); (try k_sweep); (try k_fold))
    | (refine CRest.test ?_; intro t' own' C' oC' D' m' h' tk' E' hC' hx' F' N' off' wo'; (first | (obtain ⟨hx1, hx2, hx3, _⟩ := hx'; (try dsimp only at hx1 hx2 hx3)) | (obtain ⟨hx1, _⟩ := hx'; (try dsimp only at hx1))); (try k_sweep); (try k_fold))
  k_with "my coff" => first
    | exact coff_nil
    | assumption
    | (with_reducible refine' coff_e (by assumption) (by k_extra "kcj_q") ?_; k_extra "my coff")
    | (with_reducible refine' coff_consW (by assumption) (by ktn_lt) (by k_extra "kcj_q") (by k_extra "kcj_q") (by kd_subs) ?_; k_extra "my coff")
    | (with_reducible refine' coff_app ?_ ?_; (focus k_extra "my coff"); k_extra "my coff")
    | (with_reducible refine' coff_sub (by assumption) (by kd_subs))
    | (with_reducible refine' coff_ordW (by assumption) (by assumption) (by k_extra "kcj_q") (by k_extra "kcj_q") (by kd_subs))
  k_with "CEnd" => (k_dflt (refine' cend (by k_asm) (by k_asm) (by k_extra "kcj_q") (by k_extra "kcj_q") (by kd_subs) (by repeat' (first | exact CS.base | refine' CS.skip ?_)) (by k_extra "my coff") ?_); (try simp only [List.nil_append, List.cons_append]))
  k_with "FinC" => (unfold FinC; intro D' h' tk' F' N' o1' l1'; (try dsimp only [PyProof.Rows.LCg.lst, List.length_cons, List.length_nil] at N'); (try simp only [AllLt, and_true] at l1'); (try dsimp only))
  k_with "FinS" => (unfold FinS; intro D' h' tk' F' N' o1' l1'; (try dsimp only [PyProof.Rows.LCg.lst, List.length_cons, List.length_nil] at N'); (try simp only [AllLt, and_true] at l1'); (try dsimp only))
  k_with "my sub" => (k_here; (with_reducible show wpAny _ _ (subscriptTail _ _ (Value.ref _) (Value.int _ _)) _ _ _); k_dflt (first
    | ((with_reducible show wpAny _ _ (subscriptTail _ _ (Value.ref _) (Value.int 0 _)) _ _ _); first | refine' item_tup0 (by k_asm) (by k_extra "kcj_q") ?_ (by with_unfolding_all rfl) | refine' item_tup0S (by k_asm) (by assumption) (by exact rfl) (by kd_subs) ?_ (by with_unfolding_all rfl))
    | (refine' item_tupS (by k_asm) (by assumption) (by exact rfl) (by kd_subs) (by decide) (by decide) (by exact rfl) (by exact rfl) ?_ (by with_unfolding_all rfl))
    | (refine' item_lstS (by k_asm) (by assumption) (by exact rfl) (by kd_subs) (by decide) (by decide) (by exact rfl) ?_ (by with_unfolding_all rfl))
    | (refine' item_lstNS (by k_asm) (by assumption) (by exact rfl) (by kd_subs) (by decide) (by decide) (by exact rfl) (by exact rfl) ?_ (by with_unfolding_all rfl))
    | (refine' item_lst (by k_asm) (by k_extra "kcj_q") (by decide) (by decide) (by exact rfl) ?_ (by with_unfolding_all rfl))
    | (refine' item_lstN (by k_asm) (by k_extra "kcj_q") (by decide) (by decide) (by exact rfl) (by exact rfl) ?_ (by with_unfolding_all rfl))))
  k_with "subscriptTail" => k_extra "my sub"
  k_with "subscriptTail Name" => k_extra "my sub"
  k_with "subscriptTail Subscript" => k_extra "my sub"
  k_with "subscriptTail Name Constant ref int" => k_extra "my sub"
  k_with "subscriptTail Name Name ref int" => k_extra "my sub"
  k_with "subscriptTail Name BinOp ref int" => k_extra "my sub"
  k_with "subscriptTail Name UnaryOp ref int" => k_extra "my sub"
  k_with "my sub" => (k_here; (with_reducible show wpAny _ _ (subscriptTail _ _ (Value.ref _) (Value.int _ _)) _ _ _); k_dflt (first
    | (refine' item_tupAt (by k_asm) (by k_extra "kcj_q") (by with_reducible assumption) (by assumption) ?_ (by with_unfolding_all rfl))
    | (refine' item_lstAt (by k_asm) (by k_extra "kcj_q") (by with_reducible assumption) (by assumption) ?_ (by with_unfolding_all rfl))))
  k_with "my sub" => (k_here; (with_reducible show wpAny _ _ (subscriptTail _ _ (Value.ref _) (Value.int (-1) _)) _ _ _); k_dflt (first
    | (refine' item_lstLast (by k_asm) (by k_extra "kcj_q") (by with_reducible assumption) ?_ (by with_unfolding_all rfl))
    | (refine' item_tupLast (by k_asm) (by k_extra "kcj_q") (by with_reducible assumption) ?_ (by with_unfolding_all rfl))))
  k_with "call builtin:len" => (k_here; (with_reducible show wpAny _ _ (call (Value.builtin "len") [Value.ref _]) _ _ _); k_dflt (first
    | (refine' len_tupL (by k_asm) (by k_extra "kcj_q") (by assumption) ?_)
    | (refine' len_lstL (by k_asm) (by k_extra "kcj_q") (by assumption) ?_)); intro t9 t8; (try dsimp only [List.length_cons, List.length_nil]); (try dsimp only))
  k_with "call type:tuple" => (k_here; (with_reducible show wpAny _ _ (call (Value.type _) [Value.ref _]) _ _ _); k_dflt (refine' tup_of_list (by k_asm) (by k_asm) (by k_extra "kcj_q") (by assumption) ?_); intro D' h' F' N' l1; (try k_sweep))
  k_with "call builtin:list.append" => (k_here; (with_reducible show wpAny _ _ (call (Value.builtin _) [Value.ref _, _]) _ _ _); k_dflt (refine' append_L (by k_asm) (by k_asm) (by first | refine' Upd.tail (by k_extra "my ne") (Upd.tail (by k_extra "my ne") (upd_app (by k_all) (Upd.head (by k_all)))) | k_upd) (by assumption) ?_); intro h' F' N'; (try k_sweep))
  k_with "my con" => first | exact con_plus (by assumption) (by assumption) | exact con_minus (by assumption) (by assumption) | exact con_times (by assumption) (by assumption)
  k_with "my dv" => first
    | ((with_reducible show Dv _ _ _ _ _ _ _ _ (PySem.Expr.Subscript _ (PySem.Expr.Name _ _) _) _); exact dv_itemAt (by k_extra "my dv") (by k_extra "my dv") (by with_reducible assumption) (by assumption) (by intro _ _; with_unfolding_all rfl))
    | ((with_reducible show Dv _ _ _ _ _ _ _ _ (PySem.Expr.Subscript _ (PySem.Expr.BinOp _ _ _ _) _) _); exact dv_itemAt (by k_extra "my dv") (by k_extra "my dv") (by with_reducible assumption) (by assumption) (by intro _ _; with_unfolding_all rfl))
    | ((with_reducible show Dv _ _ _ _ _ _ _ _ (PySem.Expr.Name _ _) _); exact dv_cname (by assumption) (by k_extra "kcj_q") (by assumption) (by k_extra "my dat") (by exact rfl) (by exact rfl) (by decide))
    | ((with_reducible show Dv _ _ _ _ _ _ _ _ (PySem.Expr.Name _ _) _); exact dv_free (by exact rfl) (by k_extra "kcj_q") (by assumption) (by k_extra "my dat") (by exact rfl) (by exact rfl) (by decide) (by decide))
    | ((with_reducible show Dv _ _ _ _ _ _ _ _ (PySem.Expr.Name _ _) _); exact dv_ccell (by exact rfl) (by k_extra "kcj_q") (by assumption) (by k_extra "my dat") (by exact rfl) (by exact rfl) (by decide))
    | ((with_reducible show Dv _ _ _ _ _ _ _ _ (PySem.Expr.Name _ _) _); exact dv_cell (by exact rfl) (by k_extra "kcj_q") (by assumption) (by k_extra "my dat") (by exact rfl) (by exact rfl) (by decide))
  k_with "exec While Compare cons nil" => (k_here; refine stopW ?_)
  k_with "pyIter ref" => (k_here; (with_reducible show wpAny _ _ (pyIter (Value.ref _)) (fun it s₂ => CompAt _ _ _ _ _ _ _ _ _ _ _ _ _ it s₂) _ _); (have k9 : StopC := by assumption); refine stopW ?_)
  k_with "CEnd" => ((have k9 : StopE := by assumption); refine stopW ?_)
  k_with "my con" => exact fun l v vs h r => con_mixed (by assumption) (by assumption) (by assumption) l v vs h r
  trivial
set_option maxRecDepth 100000 in
set_option maxHeartbeats 4000000 in
theorem ct_steps {w : World} {mean : ExcName → Option Value} {mg mb : Str → Option Value} {news : Led} {vc vt : Value} {c : List Pt} {t : Rat} (dc : DatIn news vc (cvd c)) (dt : DatIn news vt (qd t)) (hc : 1 ≤ c.length ∧ c.length ≤ 4) (bc : ∀ p ∈ c, Bp 3 p) (bt : Bd 2 t) :
    Gives w mean mg mb 12 113 news news [vc, vt] (fun l r => DatIn l r (.list ((rowsN t (c.length - 1) c).map cvd))) := by
  unfold Gives
  k_fill
  obtain ⟨cA, cn, vs, rfl, mc, dvs, hv⟩ := cvd_open dc
  have hv2 : LenOk vs.length := by unfold LenOk; omega
  have st : Bd 100 t := bt.mono (by decide)
  have hM := kdMark
  intro dp un gd cn cs a ccd cl outer A₀ base h₀ L m s nw Q E B F X N T hk hn hd hu hret
  replace mc := hn _ mc
  refine wpAny_call ?_
  k_dflt ktr_enter
  k_steps
  unfold StopW
  rename_i oA oT dA dT h1 F1 N1
  obtain ⟨D, hD⟩ : ∃ D, D = l' := ⟨_, rfl⟩
  subst hD
  replace dT : oT.data = .cell (some vt) := dT
  replace dA : oA.data = .cell none := dA
  refine While_inv (JS _ D _ _ oT ((D, W.listOf #[Value.ref cA] 0) :: (L' + 1 + 1, oA) :: (L' + 1, oT) :: nw) nw news t (rowsN t (c.length - 1) c)) F1 N1 ⟨rfl, _, _, oA, none, [], [], c, rfl, dA, Ord.nil, by rw [List.append_nil]; exact DatAll.one dc, rfl, hc.1, hc.2, by simpa using hc.2, rfl, fun q hq => (bc q hq).mono ?_⟩ ?_ ?_
  · obtain ⟨h1, h4⟩ := hc
    have : c.length = 1 ∨ c.length = 2 ∨ c.length = 3 ∨ c.length = 4 := by omega
    rcases this with e | e | e | e <;> rw [e] <;> decide
  · intro k m₁ l h2 tk2 F2 N2 hJ
    obtain ⟨rfl, us, n, oA2, ov, tl, pre, cur, rfl, dA2, ho, hd9, hk9, hk1, hk4, hpre, hall, hb⟩ := hJ
    rw [List.map_append] at hd9
    have hul0 := hd9.length
    simp only [List.length_append, List.length_map, List.length_cons, List.length_nil] at hul0
    have hul : LenOk us.length := by unfold LenOk; omega
    obtain ⟨us', vl, hus, dvl⟩ : ∃ us' vl, us = us' ++ [vl] ∧ DatIn (news ++ tl) vl (cvd cur) := by
      rcases List.eq_nil_or_concat us with rfl | ⟨us', vl, e⟩
      · simp at hul0
      · rw [List.concat_eq_append] at e
        subst e
        obtain ⟨es, d, e, _, h⟩ := DatAll.snoc hd9
        have := (List.append_inj' e rfl).2
        cases this
        exact ⟨us', vl, rfl, h⟩
    have hlast : LastV us vl := ⟨us', hus⟩
    obtain ⟨ra, rn, rvs, rfl, mr, drs, hrl⟩ := cvd_open dvl
    have hrl2 : LenOk rvs.length := by unfold LenOk; omega
    have hsub : ∀ p ∈ news ++ tl, p ∈ tl ++ nw := fun p hp => by
      rcases List.mem_append.mp hp with h | h
      · exact List.mem_append.mpr (.inr (hn _ h))
      · exact List.mem_append.mpr (.inl h)
    replace mr := hsub _ mr
    by_cases hk2 : k = 1
    · subst hk2
      have hr1 : ((rvs.length : Nat) : Int) = 1 := by omega
      k_steps
      refine gend (tl := (D, W.listOf (List.toArray us) n) :: tl) hret (by assumption) (by assumption) (by unfold Split; kd_subs) (Ord.cons (allLt_of fun p hp => l1 p (.tail _ (.tail _ hp))) (Ord.sub ho (by kcj_in))) ?_
      unfold Says
      rw [hall]
      show DatIn _ _ (.list ((pre ++ [cur]).map cvd))
      rw [List.map_append]
      exact DatIn.list (by kcj_m) (hd9.mono (by kd_subs))
    · have hr2 : (1 : Int) < ((rvs.length : Nat) : Int) := by omega
      have hbn : bnd k ≤ 900 := by
        have : k = 2 ∨ k = 3 ∨ k = 4 := by omega
        rcases this with e | e | e <;> rw [e] <;> decide
      have hS : StopC := ⟨⟩
      k_steps
      unfold StopW
      rename_i h3 oA3 F3 N3 dA3 h4 tk4 u1 u2 u3 hr4 F4 N4 hk5
      refine comp_rangeN (n := cur.length - 1) (by with_unfolding_all rfl) (by assumption) (by omega) (by unfold LenOk; omega) (by k_asm) (by k_asm) rfl rfl ?_
      intro I s9 hs9
      obtain ⟨h9, e9⟩ := hs9
      subst e9
      refine CRest.upto (f := datAt (nxt t cur)) (base := (D, W.listOf (List.toArray us) n) :: (L' + 1 + 1, oA3) :: (L' + 1, oT) :: (tl ++ nw)) (keep := news ++ tl) ?_ ?_
      · intro i hi ys tl' ho' t0 own C oC D' m₂ h tk E' k1 k2 k3 k4 k5 k6
        have hi1 : i + 1 < cur.length := by omega
        obtain ⟨qa, ea⟩ : ∃ q, cur[i]? = some q := ⟨_, List.getElem?_eq_getElem (by omega)⟩
        obtain ⟨qb, eb⟩ : ∃ q, cur[i+1]? = some q := ⟨_, List.getElem?_eq_getElem hi1⟩
        have hA : AtD (cur.map pd) (0 + (i : Int)) (pd qa) := ⟨i, by omega, by rw [List.getElem?_map, ea]; rfl⟩
        have hB : AtD (cur.map pd) (0 + (i : Int) + 1) (pd qb) := ⟨i + 1, by omega, by rw [List.getElem?_map, eb]; rfl⟩
        have sa : Bp 900 qa := (Bp.at hb ea).mono hbn
        have sb : Bp 900 qb := (Bp.at hb eb).mono hbn
        have hl60 : (cur.map pd).length ≤ 60 := by rw [List.length_map]; omega
        refine Wq.out ?_
        k_dflt (refine' dv_runB (⟨⟩ : BaseIs [(C, oC), (L' + 1 + 1, oA3), (L' + 1, oT)] (news ++ tl)) k3 k4 (by kd_subs) (by kd_subs) (by k_extra "my dv") ?_)
        intro y t9 h9 tk9 F9 N9 O9 D9
        refine CEnd.intro (news' := t9 ++ (tl' ++ _)) (by assumption) (by assumption) (by kd_subs) (coff_app (coff_ord (by assumption) (by kcj_m) (by kcj_m) (by kd_subs) k6) k5) ⟨t9, rfl, Ord.sub O9 (by kd_subs), ?_⟩
        rw [datAt_some (nxt_get t ea eb)]
        exact DatIn.mono (fun p hp => by rcases List.mem_append.mp hp with h | h; exact List.mem_append.mpr (.inr h); exact List.mem_append.mpr (.inl h)) D9
      · intro ys tl' ho' hd'
        have hys : LenOk ys.length := by rw [hd'.length, List.length_map, List.length_range]; unfold LenOk; omega
        k_steps
        have hl9 : AllLt D' ((D, W.listOf (List.toArray us) n) :: (L' + 1 + 1, oA3) :: (L' + 1, oT) :: (tl ++ nw)) := allLt_of fun p hp => l1 p (.tail _ (List.mem_append.mpr (.inr hp)))
        have hdn : DatAll ((news ++ tl) ++ tl') ys ((nxt t cur).map pd) := by
          have e := datAt_all (nxt t cur)
          rw [nxt_len] at e
          rw [← e]
          exact hd'
        refine WhileStep.intro (n' := k - 1) F' (cb_drop N' ?_) (by omega) ⟨rfl, us ++ [Value.ref D'], n + 1, oA3, _, (D', { cls := .type "tuple", data := .seq ys.toArray }) :: (tl' ++ tl), pre ++ [cur], nxt t cur, rfl, dA3, ?_, ?_, by rw [nxt_len]; omega, by omega, by omega, ?_, ?_, ?_⟩
        · rw [List.cons_append, List.append_assoc]
          kd_subs
        · refine Ord.cons ⟨hl9.1, hl9.2.1, hl9.2.2.1, (allLt_append.mp hl9.2.2.2).2⟩ (Ord.app (Ord.addr ho' fun q hq => ?_) ho)
          rcases List.mem_cons.mp hq with rfl | hq
          · exact ⟨_, .head _⟩
          rcases List.mem_cons.mp hq with rfl | hq
          · exact ⟨_, .tail _ (.head _)⟩
          rcases List.mem_cons.mp hq with rfl | hq
          · exact ⟨_, .tail _ (.tail _ (.head _))⟩
          · exact ⟨_, .tail _ (.tail _ (.tail _ (List.mem_append.mpr (.inr hq))))⟩
        · rw [List.map_append, List.map_append]
          exact DatAll.append (hd9.mono (by kd_subs)) (DatAll.one (DatIn.tuple (by kcj_m) (hdn.mono (by kd_subs))))
        · simp only [List.length_append, List.length_cons, List.length_nil]
          omega
        · rw [hall, List.append_assoc]
          congr 1
          have : k - 1 = (k - 1 - 1) + 1 := by omega
          rw [this]
          rfl
        · refine nxt_bp bt ?_ hb
          have : k = 2 ∨ k = 3 ∨ k = 4 := by omega
          rcases this with e | e | e <;> rw [e] <;> decide
  · passes_own
end
section
def WordIs (x : Str) (b : Bool) : Prop := ([Str.ofString "line", Str.ofString "quad", Str.ofString "cubic"].any (· == x)) = b
section
variable {prog : Program} {w : World} {A : Around} {E : Value → Shared → Prop} {s : Shared} {h₀ : Heap} {L : Addr} {m : Str → Option Value} {news : List (Addr × Obj)}
theorem word_in {t : Addr} {x : Str} {u t1 t2 t3 : Tok} {b : Bool} {Q : Value → Shared → Prop} (ht : IsTup s.heap t #[.str (Str.ofString "line") t1, .str (Str.ofString "quad") t2, .str (Str.ofString "cubic") t3]) (hw : WordIs x b)
    (h : Q (.bool b) s) : wpAny (model prog w) A (compareOp .In (.str x u) (.ref t)) Q E s :=
  in_tuple_strs ht (.cons _ _ (.cons _ _ (.cons _ _ .nil))) (by unfold WordIs at hw; rw [hw]; exact h)
theorem tup_add1 {t b : Addr} {v0 v1 : Value} {vr : List Value} {n k : Nat} {Q : Value → Shared → Prop} (F : Fr h₀ L s.heap m) (N : News h₀ L s.heap news) (ht : (t, ({ cls := .type "tuple", data := .seq [v0].toArray n } : Obj)) ∈ news) (hb : (b, ({ cls := .type "tuple", data := .seq (v1 :: vr).toArray k } : Obj)) ∈ news)
    (hz : (v1 :: vr).length ≤ 1000)
    (h : ∀ D h', Fr h₀ L h' m → News h₀ L h' ((D, ({ cls := .type "tuple", data := .seq (v0 :: v1 :: vr).toArray } : Obj)) :: news) → (∀ p ∈ news, p.1 < D) → Q (.ref D) { s with heap := h' }) : wpAny (model prog w) A (binaryOp .Add (.ref t) (.ref b)) Q E s :=
  kde_addT F N (News.isTup N ht) (News.isTup N hb) (List.cons_ne_nil _ _) (List.cons_ne_nil _ _) (by simp only [List.length_cons, List.length_nil] at *; omega) rfl h
end
theorem reg10 : True := by
  k_with_none
  k_with "kcj_q" => first
    | exact List.mem_cons_self
    | (refine List.mem_cons_of_mem _ ?_; k_extra "kcj_q")
    | (refine List.mem_append.mpr (Or.inr ?_); k_extra "kcj_q")
    | (refine List.mem_append.mpr (Or.inl ?_); k_extra "kcj_q")
    | assumption
    | exact sub_use (by assumption) (by assumption)
  k_with "kd_suf" => first
    | with_reducible exact fun _ h => h
    | (refine sub_cons ?_; k_extra "kd_suf")
    | (refine sub_appR ?_; k_extra "kd_suf")
  k_with "kd_subs" => first
    | k_extra "kd_suf"
    | exact List.forall_mem_nil _
    | assumption
    | (refine List.forall_mem_cons.mpr ⟨?_, ?_⟩; (focus k_extra "kcj_q"); kd_subs)
    | (refine List.forall_mem_append.mpr ⟨?_, ?_⟩; (focus kd_subs); kd_subs)
    | (refine sub_cons ?_; kd_subs)
    | (refine sub_appR ?_; kd_subs)
    | (refine sub_appL ?_; kd_subs)
  k_with "ktn_lt" => first | assumption | exact allLt_of (by assumption) | exact alt1 (by assumption) | exact alt2 (by assumption) | exact alt3 (by assumption) | exact alt4 (by assumption) | exact alt5 (by assumption) | exact alt6 (by assumption)
  k_with "ktn_ord" => first
    | exact Ord.nil
    | assumption
    | (refine Ord.app ?_ ?_ <;> ktn_ord)
    | (refine Ord.lt (by ktn_lt) ?_ ?_; (focus kcj_in); ktn_ord)
    | (refine Ord.le (by ktn_lt) ?_ (by omega) ?_; (focus kcj_in); ktn_ord)
    | (refine Ord.sub (by assumption) ?_; kcj_in)
  k_with "ktr_rel" => first | assumption | (refine DatIn.mono ?_ (by assumption); kd_subs)
  k_with "ktr_enter" => first
    | (refine' code_def (by k_asm) (by k_asm) (by k_asm) (by k_asm) (by k_asm) rfl rfl (by first | assumption | exact rfl) (by k_is) (by k_is) (by k_extra "my room") (by first | exact BindsTo.of_eq rfl | exact binds_K (by k_in) rfl (by k_is) rfl rfl rfl | fail "no rule for these arguments") (locs rfl) ?_ rfl rfl rfl (by decide); k_whole; intro g' L' h' FG' F' N' B' X' T'; (try dsimp only); (try k_fold))
    | (refine' code_defC (by k_asm) (by k_asm) (by k_asm) (by k_asm) (by k_asm) rfl rfl (by first | assumption | exact rfl) (by k_is) (by k_is) (by k_extra "my room") (by first | exact BindsTo.of_eq rfl | exact binds_K (by k_in) rfl (by k_is) rfl rfl rfl | fail "no rule for these arguments") rfl (by decide +kernel) ?_ rfl rfl rfl; k_whole; intro g' L' h' tk' cells' FG' F' N' Y' B' X' T' l1; (try k_lt l1); k_cells Y'; (try simp only [List.cons_append, List.nil_append] at N'); (try dsimp only); (try k_fold))
  k_with "my gend" => (refine' gend (by assumption) (by assumption) (by assumption) (by repeat' (first | exact Split.base0 | refine' Split.skip ?_ | refine' Split.appO (by assumption) ?_ | refine' Split.own ?_)) (by ktn_ord) ?_)
  k_with "my end0" => (refine' gend0 (by assumption) (by assumption) (by assumption) (by kd_subs) ?_; (try unfold Says))
  k_with "my dats" => first | exact DatAll.nil | assumption | (refine DatAll.mono ?_ (by assumption); kd_subs) | (refine DatAll.cons ?_ ?_; (focus k_extra "my dat"); k_extra "my dats")
  k_with "my dat" => first
    | exact DatIn.int _ _
    | assumption
    | (refine DatIn.mono ?_ (by assumption); kd_subs)
    | exact DatIn.tuple (by k_extra "kcj_q") (by k_extra "my dats")
    | exact DatIn.list (by k_extra "kcj_q") (by k_extra "my dats")
  k_with "my rel" => (refine DatIn.mono ?_ (by assumption); kd_subs)
  k_with "my room" => first | exact room1 (by assumption) (by exact rfl) | exact room0 (by assumption) (by exact rfl) | ktr_room
  k_with "my units" => first | exact units1 (by assumption) (by exact rfl) | exact units0 (by assumption) (by exact rfl) | ktr_units
  k_with "my ne" => first | exact ne_gtR (by assumption) (by k_extra "kcj_q") | exact ne_ltR (by assumption) (by k_extra "kcj_q") | k_ne
  k_with "newTuple" => (k_here; k_dflt (refine' kup_newTuple (by k_asm) (by k_asm) ?_ (by kmk_size)); intro D' h' F' N' l1; (try k_sweep))
  k_with "newList" => (k_here; k_dflt (refine' newList_K (by k_asm) (by k_asm) ?_ (by size_fits)); intro l' h' F' N' l1; (try k_sweep))
  k_with "my evv" => first
    | ((with_reducible show Ev _ _ _ _ _ (PySem.Expr.Name _ _) _); exact ev_name (by k_asm) (by exact rfl) (by exact rfl) (by exact rfl) (by decide))
    | ((with_reducible show Ev _ _ _ _ _ (PySem.Expr.Subscript _ (PySem.Expr.Constant _ _ _) _) _); exact ev_item (by k_asm) (by k_extra "my evv") (by k_extra "kcj_q") (by decide) (by exact rfl) (by exact rfl))
  k_with "my ev" => first
    | ((with_reducible show Ev _ _ _ _ _ (PySem.Expr.Constant _ _ _) _); exact ev_int)
    | ((with_reducible show Ev _ _ _ _ _ (PySem.Expr.Name _ _) _); exact ev_nameI (by k_asm) (by exact rfl) (by exact rfl) (by exact rfl) (by decide))
    | ((with_reducible show Ev _ _ _ _ _ (PySem.Expr.Subscript _ (PySem.Expr.Constant _ _ _) _) _); exact ev_itemI (by k_asm) (by k_extra "my evv") (by k_extra "kcj_q") (by decide) (by exact rfl) (by exact rfl))
    | ((with_reducible show Ev _ _ _ _ _ (PySem.Expr.BinOp _ PySem.Operator.Mult _ _) _); exact ev_mul (by k_extra "my ev") (by k_extra "my ev") (by mul_fits))
    | ((with_reducible show Ev _ _ _ _ _ (PySem.Expr.BinOp _ PySem.Operator.Add _ _) _); exact ev_add (by k_extra "my ev") (by k_extra "my ev"))
    | ((with_reducible show Ev _ _ _ _ _ (PySem.Expr.BinOp _ PySem.Operator.Sub _ _) _); exact ev_sub (by k_extra "my ev") (by k_extra "my ev"))
    | ((with_reducible show Ev _ _ _ _ _ (PySem.Expr.UnaryOp PySem.UnaryOp.USub _ _) _); exact ev_neg (by k_extra "my ev"))
  k_with "eval BinOp" => (k_here; k_dflt (refine' ev_runI (by k_extra "my ev") ?_); intro t' tk'; (try dsimp only))
  k_with "eval UnaryOp" => (k_here; (with_reducible show wpAny _ _ (eval (PySem.Expr.UnaryOp _ (PySem.Expr.Subscript _ _ _) _) _) _ _ _); k_dflt (refine' ev_runI (by k_extra "my ev") ?_); intro t' tk'; (try dsimp only))
  k_with "eval Subscript" => (k_here; k_dflt (refine' ev_runV (by k_extra "my evv") ?_); intro tk'; (try dsimp only))
  k_with "my bit" => first | assumption | exact Bd.nu (by assumption) | exact Bd.de (by assumption) | (k_dflt (first | exact bp_nx (by assumption) | exact bp_dx (by assumption) | exact bp_ny (by assumption) | exact bp_dy (by assumption)))
  k_with "my lit" => first
    | ((with_reducible show LitD (PySem.Expr.Constant (PySem.Const.int _) _ _) _); exact lit_int)
    | ((with_reducible show LitD (PySem.Expr.Constant (PySem.Const.str _) _ _) _); exact lit_str)
    | ((with_reducible show LitD (PySem.Expr.UnaryOp PySem.UnaryOp.USub (PySem.Expr.Constant (PySem.Const.int _) _ _) _) _); exact lit_neg)
    | ((with_reducible show LitD (PySem.Expr.Tuple _ _ _) _); exact lit_tuple (by k_extra "my lits") (by exact Nat.le_of_ble_eq_true rfl))
    | ((with_reducible show LitD (PySem.Expr.List _ _) _); exact lit_list (by k_extra "my lits") (by exact Nat.le_of_ble_eq_true rfl))
  k_with "my lits" => first
    | ((with_reducible show LitA [] _); exact litA_nil)
    | ((with_reducible show LitA (_ :: _) _); exact litA_cons (by k_extra "my lit") (by k_extra "my lits"))
  k_with "my dvs" => first
    | ((with_reducible show DvA _ _ _ _ _ _ _ _ [] _); exact dvA_nil)
    | ((with_reducible show DvA _ _ _ _ _ _ _ _ (_ :: _) _); exact dvA_cons (by k_extra "my dv") (by k_extra "my dvs"))
  k_with "my dv" => first
    | ((with_reducible show Dv _ _ _ _ _ _ _ _ (PySem.Expr.Name _ _) _); exact dv_name (by exact rfl) (by k_extra "my dat") (by exact rfl) (by exact rfl) (by decide))
    | ((with_reducible show Dv _ _ _ _ _ _ _ _ (PySem.Expr.Constant _ _ _) _); exact dv_lit (by k_extra "my lit"))
    | ((with_reducible show Dv _ _ _ _ _ _ _ _ (PySem.Expr.Subscript _ (PySem.Expr.Constant _ _ _) _) _); first | exact dv_item (by k_extra "my dv") (by decide) (by exact rfl) (by exact rfl) | exact dv_item0 (by k_extra "my dv"))
    | ((with_reducible show Dv _ _ _ _ _ _ _ _ (PySem.Expr.Tuple _ _ _) _); first | exact dv_lit (by k_extra "my lit") | exact dv_tuple (by k_extra "my dvs") (by exact Nat.le_of_ble_eq_true rfl))
    | ((with_reducible show Dv _ _ _ _ _ _ _ _ (PySem.Expr.List _ _) _); exact dv_lit (by k_extra "my lit"))
    | ((with_reducible show Dv _ _ _ _ _ _ _ _ (PySem.Expr.BinOp _ PySem.Operator.Mult _ _) _); exact dv_mul (by k_extra "my dv") (by k_extra "my dv") (by mul_fits))
    | ((with_reducible show Dv _ _ _ _ _ _ _ _ (PySem.Expr.BinOp _ PySem.Operator.Add _ _) _); exact dv_add (by k_extra "my dv") (by k_extra "my dv"))
    | ((with_reducible show Dv _ _ _ _ _ _ _ _ (PySem.Expr.BinOp _ PySem.Operator.Sub _ _) _); exact dv_sub (by k_extra "my dv") (by k_extra "my dv"))
    | ((with_reducible show Dv _ _ _ _ _ _ _ _ (PySem.Expr.UnaryOp PySem.UnaryOp.USub _ _) _); exact dv_neg (by k_extra "my dv"))
    | ((with_reducible show Dv _ _ _ _ _ _ _ _ (PySem.Expr.Call _ _ _ _) _); exact dv_call (by k_asm) (by k_asm) (by k_asm) (by exact rfl) (by k_extra "my fn") (by k_is) (by exact rfl) (by k_extra "my dv") (by k_extra "my dvs") (by exact rfl) (by k_extra "my con") (by k_extra "my room") (by k_extra "my units"))
  k_with "eval Call" => (k_here; k_dflt (refine Wq.out ?_; refine' dv_runB (by assumption) (by k_asm) (by k_asm) (by kd_subs) (by kd_subs) (by k_extra "my dv") ?_); intro v9 t9 h9 tk9 F9 N9 O9 D9; (have hB9 := baseOf (by assumption) D9); (try k_dflt (k_extra "my got")); (try k_sweep))
  k_with "eval Tuple" => (k_here; k_dflt (refine Wq.out ?_; refine' dv_runB (by assumption) (by k_asm) (by k_asm) (by kd_subs) (by kd_subs) (by k_extra "my dv") ?_); intro v9 t9 h9 tk9 F9 N9 O9 D9; (have hB9 := baseOf (by assumption) D9); (try k_dflt (k_extra "my got")); (try k_sweep))
  k_with "eval List" => (k_here; k_dflt (refine Wq.out ?_; refine' dv_runB (by assumption) (by k_asm) (by k_asm) (by kd_subs) (by kd_subs) (by k_extra "my dv") ?_); intro v9 t9 h9 tk9 F9 N9 O9 D9; (have hB9 := baseOf (by assumption) D9); (try k_dflt (k_extra "my got")); (try k_sweep))
  k_with "exec Assign" => (k_here; (with_reducible show wpAny _ _ (exec (PySem.Stmt.Assign [PySem.Expr.Tuple [PySem.Expr.Name _ _, PySem.Expr.Name _ _] _ _] _ _) _) _ _ _); k_dflt (refine Wq.out ?_; refine' dv_pair (by assumption) (by k_asm) (by k_asm) (by kd_subs) (by kd_subs) (by k_extra "my dv") (by with_unfolding_all rfl) (by exact rfl) (by exact rfl) (by exact rfl) (by exact rfl) (by exact rfl) ?_); intro vx9 vy9 t9 h9 tk9 F9 N9 O9 D9 E9; (have hB9 := baseOf (by assumption) D9); (try k_sweep))
  k_with "exec Return some" => (k_here; k_dflt (refine Wq.out ?_; refine' dv_ret (by assumption) (by k_asm) (by k_asm) (by kd_subs) (by kd_subs) (by k_extra "my dv") ?_); intro v9 t9 h9 tk9 F9 N9 O9 D9; (try k_sweep))
  k_with "exec Assign" => (k_here; (with_reducible show wpAny _ _ (exec (PySem.Stmt.Assign [PySem.Expr.Name _ _] _ _) _) _ _ _); k_dflt (refine Wq.out ?_; refine' dv_set (by assumption) (by k_asm) (by k_asm) (by kd_subs) (by kd_subs) (by k_extra "my dv") (by exact rfl) (by exact rfl) (by exact rfl) ?_); intro v9 t9 h9 tk9 F9 N9 O9 D9; (have hB9 := baseOf (by assumption) D9); (try k_dflt (k_extra "my got")); (try k_sweep))
  k_with "my fn" => first
    | ((with_reducible show FnAt _ _ _ _ _ (compEnvC _ _ _ _) _ _); exact fnC (by k_asm) (by k_asm) (by k_is) (by exact rfl) (by exact rfl) (by exact rfl) (by decide))
    | exact fnX (by k_asm) (by k_asm) (by exact rfl) (by k_is) (by exact rfl) (by decide)
  k_with "subscriptTail Name Slice ref ref" => (k_here; (with_reducible show wpAny _ _ (subscriptTail _ (PySem.Expr.Slice none none (some _) _) (Value.ref _) (Value.ref _)) _ _ _); k_dflt (refine' tup_rev (by k_asm) (by k_asm) (by k_mem) rfl ?_ (by with_unfolding_all rfl) (by kmk_pure) (by first | exact Nat.le_of_ble_eq_true rfl | exact LenOk.le (by assumption))); intro D' h' F' N' l1; (try k_sweep))
  k_with "subscriptTail Name Slice ref ref" => (k_here; (with_reducible show wpAny _ _ (subscriptTail _ (PySem.Expr.Slice (some _) none none _) (Value.ref _) (Value.ref _)) _ _ _); k_dflt (refine' tup_tail (by k_asm) (by k_asm) (by k_mem) ?_ (by with_unfolding_all rfl) (by kmk_pure) (by first | exact Nat.le_of_ble_eq_true rfl | exact LenOk.le (by assumption))); intro D' h' F' N' l1; (try k_sweep))
  k_with "exec For" => (k_here; (rename Fr _ _ _ _ => lF'); (with_unfolding_all refine' For_turns lF' ?_; k_whole))
  k_with "exec For Name Subscript cons nil" => (k_here; (rename Fr _ _ _ _ => lF'); (with_unfolding_all refine' For_turns lF' ?_; k_whole))
  k_with "exec For Tuple Call cons nil" => (k_here; (rename Fr _ _ _ _ => lF'); (with_unfolding_all refine' For_turns lF' ?_; k_whole))
  k_with "exec For Name Call cons nil" => (k_here; (rename Fr _ _ _ _ => lF'); (with_unfolding_all refine' For_turns lF' ?_; k_whole))
  k_with "exec For Name Call cons cons" => (k_here; (rename Fr _ _ _ _ => lF'); (with_unfolding_all refine' For_turns lF' ?_; k_whole))
  k_with "pyIter ref" => (k_here; (with_reducible show wpAny _ _ (pyIter (Value.ref _)) (fun it s₂ => TurnsAt _ _ _ _ _ _ _ _ _ it s₂) _ _); k_dflt (refine' for_tup (by with_unfolding_all rfl) (by k_asm) (by k_asm) (by k_mem) rfl rfl ?_); (try dsimp only [List.map_cons, List.map_nil]))
  k_with "PRest" => first
    | (refine PRest.succ ?_; intro t' own' h' tk' F' N'; (try simp only [bindB] at F'); (try k_sweep); (try k_fold))
    | (refine PRest.zero ?_; intro h' tk' F' N'; (try k_sweep))
  k_with "TPost" => first | (dsimp only [TPost]) | (refine TPost.ret ?_; (try dsimp only)) | (refine TPost.next ?_) | (refine TPost.cont ?_)
  k_with "TEnd" => (refine TEnd.intro (by k_asm) (by k_asm) (by kd_subs) ?_)
  k_with "my bits" => first | k_extra "my bit" | exact Bits.mul (by k_extra "my bits") (by k_extra "my bits") | exact Bits.add (by k_extra "my bits") (by k_extra "my bits") | exact Bits.sub (by k_extra "my bits") (by k_extra "my bits") | exact Bits.neg (by k_extra "my bits") | exact Bits.lit (by decide)
  k_with "my bitsle" => exact Bits.mono (by k_extra "my bits") (by decide)
  k_with "mul_fits" => first | (refine Bits.ok (n := 8000) (m := 8000) ?_ ?_ (by decide) <;> assumption) | (refine Bits.ok (by k_extra "my bits") (by k_extra "my bits") (by decide))
  k_with "call type:zip" => (k_here; (with_reducible show wpAny _ _ (call (Value.type _) [Value.ref _, Value.ref _, Value.ref _]) (fun xv s₁ => wpAny _ _ (pyIter xv) (fun it s₂ => TurnsAt _ _ _ _ _ _ _ _ _ it s₂) _ s₁) _ _); k_dflt (refine' for_zip3 (by with_unfolding_all rfl) (by k_asm) (by k_asm) (by k_mem) (by k_mem) (by k_mem) (by exact rfl) (by exact rfl) rfl rfl rfl rfl ?_); (try dsimp only [trip3]))
  k_with "call type:tuple" => (k_here; (with_reducible show wpAny _ _ (call (Value.type _) [Value.ref _]) _ _ _); k_dflt (refine' call_tuple_tup (News.isTup (by k_asm) (by k_mem)) ?_))
  k_with "eval ListComp" => (k_here; (rename Fr _ _ _ _ => lF'); k_dflt (refine' comp_eval lF' rfl (by decide) rfl (by decide) ?_ (by intro _; rfl)))
  k_with "exec Assign cons ListComp" => (k_here; (rename Fr _ _ _ _ => lF'); k_dflt (refine' comp_assign lF' rfl rfl (by decide) rfl (by decide) rfl rfl ?_ (by intro _; rfl)))
  k_with "k_all" => first
    | exact List.forall_mem_nil _
    | assumption
    | (refine' List.forall_mem_cons.mpr ⟨?_, ?_⟩; (focus first | k_extra "my ne" | assumption | exact ne_gt (by ktn_lt) (by k_extra "kcj_q") | exact ne_lt (by ktn_lt) (by k_extra "kcj_q")); k_all)
    | (refine' List.forall_mem_append.mpr ⟨?_, ?_⟩; (focus k_all); k_all)
    | exact off_gt (by assumption) (by k_extra "kcj_q")
    | exact off_leS (by assumption) (by omega)
    | exact off_le (by ktn_lt) (by kd_subs) (by omega)
  k_with "k_upd" => first | exact Upd.head (by k_all) | ((with_reducible show Upd _ _ _ (_ :: _) _); exact Upd.tail (by k_extra "my ne") (by k_upd)) | (refine' upd_app ?_ ?_; (focus k_all); k_upd)
  k_with "k_updF" => first | exact UpdF.head (by k_all) | ((with_reducible show UpdF _ _ (_ :: _) _); exact UpdF.tail (by k_extra "my ne") (by k_updF)) | (refine' updF_app ?_ ?_; (focus k_all); k_updF)
  k_with "k_mem" => k_extra "kcj_q"
  k_with "pyIter ref" => (k_here; (with_reducible show wpAny _ _ (pyIter (Value.ref _)) (fun it s₂ => CompAt _ _ _ _ _ _ _ _ _ _ _ _ _ it s₂) _ _); k_dflt (refine' comp_range (by with_unfolding_all rfl) (by assumption) (by first | rfl | decide | exact small_of (by assumption)) (by first | rfl | exact Int.toNat_of_nonneg (by decide) | exact size_of _) (by k_asm) (by k_asm) rfl rfl (by first | decide | exact Nat.le_of_ble_eq_true rfl | exact LenOk.le (by assumption)) ?_); intro I' s9 hs9; (obtain ⟨h9, e9⟩ := hs9); subst e9; (try simp only [List.range, List.range.loop, List.map_cons, List.map_nil]); (try k_sweep))
  k_with "pyIter ref" => (k_here; (with_reducible show wpAny _ _ (pyIter (Value.ref _)) (fun it s₂ => CompAt _ _ _ _ _ _ _ _ _ _ _ _ _ it s₂) _ _); k_dflt (refine' comp_list (by with_unfolding_all rfl) (by k_asm) (by k_asm) (by k_mem) rfl rfl (by first | exact Nat.le_of_ble_eq_true rfl | exact LenOk.le (by assumption)) ?_); intro I' s9 hs9; (obtain ⟨h9, e9⟩ := hs9); subst e9; (try simp only [List.map_cons, List.map_nil]); (try k_sweep))
  k_with "pyIter ref" => (k_here; (with_reducible show wpAny _ _ (pyIter (Value.ref _)) (fun it s₂ => CompAt _ _ _ _ _ _ _ _ _ _ _ _ _ it s₂) _ _); k_dflt (refine' comp_tup (by with_unfolding_all rfl) (by k_asm) (by k_asm) (by k_mem) rfl rfl (by first | exact Nat.le_of_ble_eq_true rfl | exact LenOk.le (by assumption)) ?_); intro I' s9 hs9; (obtain ⟨h9, e9⟩ := hs9); subst e9; (try simp only [List.map_cons, List.map_nil]); (try k_sweep))
  k_with "call type:zip" => (k_here; (with_reducible show wpAny _ _ (call (Value.type _) [Value.ref _, Value.ref _, Value.ref _]) (fun xv s₁ => wpAny _ _ (pyIter xv) (fun it s₂ => CompAt _ _ _ _ _ _ _ _ _ _ _ _ _ it s₂) _ s₁) _ _); k_dflt (refine' comp_zip3 (by with_unfolding_all rfl) (by k_asm) (by k_asm) (by k_mem) (by k_mem) (by k_mem) (by exact rfl) (by exact rfl) (by exact Nat.le_of_ble_eq_true rfl) rfl rfl rfl rfl (by decide) (by decide) (by decide) ?_); intro I' s9 hs9; (obtain ⟨h9, e9⟩ := hs9); subst e9; (try dsimp only [trip3]); (try k_sweep))
  k_with "CRest" => first
    | (refine CRest.zero ?_)
    | (refine CRest.plain ?_; intro t' own' C' oC' D' m' h' tk' E' hC' hx' F' N' off' wo'; (first | (obtain ⟨hx1, hx2, hx3, _⟩ := hx'; (try dsimp only at hx1 hx2 hx3)) | (obtain ⟨hx1, _⟩ := hx'; (try dsimp only at hx1))); (try k_sweep); (try k_fold))
    | (refine CRest.test ?_; intro t' own' C' oC' D' m' h' tk' E' hC' hx' F' N' off' wo'; (first | (obtain ⟨hx1, hx2, hx3, _⟩ := hx'; (try dsimp only at hx1 hx2 hx3)) | (obtain ⟨hx1, _⟩ := hx'; (try dsimp only at hx1))); (try k_sweep); (try k_fold))
  k_with "my coff" => first
    | exact coff_nil
    | assumption
    | (with_reducible refine' coff_e (by assumption) (by k_extra "kcj_q") ?_; k_extra "my coff")
    | (with_reducible refine' coff_consW (by assumption) (by ktn_lt) (by k_extra "kcj_q") (by k_extra "kcj_q") (by kd_subs) ?_; k_extra "my coff")
    | (with_reducible refine' coff_app ?_ ?_; (focus k_extra "my coff"); k_extra "my coff")
    | (with_reducible refine' coff_sub (by assumption) (by kd_subs))
    | (with_reducible refine' coff_ordW (by assumption) (by assumption) (by k_extra "kcj_q") (by k_extra "kcj_q") (by kd_subs))
  k_with "CEnd" => (k_dflt (refine' cend (by k_asm) (by k_asm) (by k_extra "kcj_q") (by k_extra "kcj_q") (by kd_subs) (by repeat' (first | exact CS.base | refine' CS.skip ?_)) (by k_extra "my coff") ?_); (try simp only [List.nil_append, List.cons_append]))
  k_with "FinC" => (unfold FinC; intro D' h' tk' F' N' o1' l1'; (try dsimp only [PyProof.Rows.LCg.lst, List.length_cons, List.length_nil] at N'); (try simp only [AllLt, and_true] at l1'); (try dsimp only))
  k_with "FinS" => (unfold FinS; intro D' h' tk' F' N' o1' l1'; (try dsimp only [PyProof.Rows.LCg.lst, List.length_cons, List.length_nil] at N'); (try simp only [AllLt, and_true] at l1'); (try dsimp only))
  k_with "my sub" => (k_here; (with_reducible show wpAny _ _ (subscriptTail _ _ (Value.ref _) (Value.int _ _)) _ _ _); k_dflt (first
    | ((with_reducible show wpAny _ _ (subscriptTail _ _ (Value.ref _) (Value.int 0 _)) _ _ _); first | refine' item_tup0 (by k_asm) (by k_extra "kcj_q") ?_ (by with_unfolding_all rfl) | refine' item_tup0S (by k_asm) (by assumption) (by exact rfl) (by kd_subs) ?_ (by with_unfolding_all rfl))
    | (refine' item_tupS (by k_asm) (by assumption) (by exact rfl) (by kd_subs) (by decide) (by decide) (by exact rfl) (by exact rfl) ?_ (by with_unfolding_all rfl))
    | (refine' item_lstS (by k_asm) (by assumption) (by exact rfl) (by kd_subs) (by decide) (by decide) (by exact rfl) ?_ (by with_unfolding_all rfl))
    | (refine' item_lstNS (by k_asm) (by assumption) (by exact rfl) (by kd_subs) (by decide) (by decide) (by exact rfl) (by exact rfl) ?_ (by with_unfolding_all rfl))
    | (refine' item_lst (by k_asm) (by k_extra "kcj_q") (by decide) (by decide) (by exact rfl) ?_ (by with_unfolding_all rfl))
    | (refine' item_lstN (by k_asm) (by k_extra "kcj_q") (by decide) (by decide) (by exact rfl) (by exact rfl) ?_ (by with_unfolding_all rfl))))
  k_with "subscriptTail" => k_extra "my sub"
  k_with "subscriptTail Name" => k_extra "my sub"
  k_with "subscriptTail Subscript" => k_extra "my sub"
  k_with "subscriptTail Name Constant ref int" => k_extra "my sub"
  k_with "subscriptTail Name Name ref int" => k_extra "my sub"
  k_with "subscriptTail Name BinOp ref int" => k_extra "my sub"
  k_with "subscriptTail Name UnaryOp ref int" => k_extra "my sub"
  k_with "compareOp In str ref" => (k_here; k_dflt (refine' word_in (News.isTup (by k_asm) (by k_extra "kcj_q")) (by assumption) ?_))
  k_with "binaryOp Add ref ref" => (k_here; k_dflt (refine' tup_add1 (by k_asm) (by k_asm) (by k_extra "kcj_q") (by k_extra "kcj_q") (by first | assumption | exact LenOk.le (by assumption)) ?_); intro D' h' F' N' l1; (try k_sweep))
  trivial
set_option maxRecDepth 100000 in
set_option maxHeartbeats 4000000 in
theorem ct_curve {w : World} {mean : ExcName → Option Value} {mg mb : Str → Option Value} {news : Led} {v0 v1 : Value} {vr : List Value} {p0 p1 : Pt} {ps : List Pt} {sA : Addr} {n : Nat} {wd : Str} {t1 : Tok} (hw : WordIs wd true) (ms : (sA, ({ cls := .type "tuple", data := .seq (.str wd t1 :: v1 :: vr).toArray n } : Obj)) ∈ news)
    (d0 : DatIn news v0 (pd p0)) (d1 : DatIn news v1 (pd p1)) (dr : DatAll news vr (ps.map pd)) (hl : LenOk (v1 :: vr).length) (hl2 : LenOk (Value.str wd t1 :: v1 :: vr).length) :
    Gives w mean mg mb 6 135 news news [v0, .ref sA] (fun l r => DatIn l r (cvd (p0 :: p1 :: ps))) := by
  unfold Gives
  k_fill
  have hM := kdMark
  intro dp un gd cn cs a ccd cl outer A₀ base h₀ L m s nw Q E B F X N T hk hn hd hu hret
  replace ms := hn _ ms
  refine wpAny_call ?_
  k_dflt ktr_enter
  k_steps
  all_goals k_extra "my gend"
  all_goals unfold Says
  all_goals (refine DatIn.tuple (by kcj_m) (DatAll.cons ?_ (DatAll.cons ?_ ?_)))
  all_goals first | ktr_rel | (refine DatAll.mono ?_ dr; kd_subs)
end
section
open PySem.Calls PySem.Spec PyProof.V Builtin Builtin.ObjectAttr
abbrev exO (C t : Addr) (dd : Option Addr) : Obj := { cls := .ref C, dict := dd, data := .fields #[.ref t, .none, .none, .none, .bool false, .none] }
abbrev tpO (vs : List Value) : Obj := { cls := .type "tuple", data := .seq vs.toArray }

/-! ## an exception class of one's own, with an __init__ of its own: the call -/
section
variable {prog : Program} {w : World} {A : Around} {R : Result → Shared → Prop} {h : Heap} {g : Array GenState} {d : Drawn} {t : Nat} {os : OsState}
variable {nm q : Str} {C N : Addr} {bs bm : List Value} {hdct : Bool} {sn : List Str} {sub : List Value} {ab : Bool} {col : Option Bool} {dd : Option Addr} {k0 k1 k2 k3 k5 : Option Value} {B newId initId : String} {bmB : List Value}
theorem exc_born (Fn : ExcBaseFacts B newId initId bmB) {rest : List Value} (hC : h.get? C = some (excClassObj nm q C N bs bm hdct sn sub ab col dd k0 k1 k2 k3 k5 newId))
    (hb : (Value.ref C :: bm).contains (.type B) = true) (ha : (Value.ref C :: bm).contains (.type "AttributeError") = false) (hn : (Value.ref C :: bm).contains (.type "NameError") = false)
    (hq : R (.ok (.ret (.ref (h.objs.size + 1)))) ⟨(h.push (tpO rest)).push (exO C h.objs.size none), g, d, t, os⟩) (hrest : rest.length ≤ sizeLine) :
    codeAny (model prog w) A (.call (.builtin newId) ⟨.ref C :: rest, []⟩) R ⟨h, g, d, t, os⟩ := by
  have hstar := Fn.noStar
  have hends := Fn.ends
  refine codeAny_call_builtin_code (Code.quiet_builtin _ Fn.quiet) ?_
  simp only [checkBuiltinCall, Fn.newKind, Fn.newSplit, Fn.newRow]
  repeat (first | refine wpAny_loadPart_at hC ?_ | (refine wpAny_isSubtype_exc hC ?_; rw [hb]) | refine wpAny_staticBase_exc hC ?_ | refine wpAny_madeBy_exc hC ?_ | simp only [bne_self_eq_false, Bool.false_eq_true, if_false] | wp_step)
  refine codeAny_builtinAt Fn.entry ?_
  unfold Builtin.«BaseException.__new__»
  refine PySem.wpAt_bind ?_
  show PySem.wpAt _ _ _ (stack >>= _) _ _ _
  refine PySem.wpAt_bind (PySem.wpAt_stack fun p below => PySem.wpAt_of_wpAny ?_)
  wp_walk
  refine PySem.wpAt_of_wpAny ?_
  rw [Fn.owner]
  repeat (first | with_reducible refine wpAny_madeHere_exc Fn.canon hC ?_ | with_reducible refine wpAny_loadPart_at hC ?_ | (with_reducible refine wpAny_isSubtype_exc hC ?_; first | rw [hb] | rw [ha] | rw [hn]) | wp_step)
  show R _ _
  rw [Heap.size_push]
  exact hq

theorem exc_called {K : Frag} {rest : List Value} {fI : Addr} {Q : Value → Shared → Prop} {E : Value → Shared → Prop} (X : K.In h) (Fn : ExcBaseFacts B newId initId bmB)
    (hC : h.get? C = some (excClassObj nm q C N bs bm hdct sn sub ab col dd k0 k1 k2 k3 k5 newId))
    (hb : (Value.ref C :: bm).contains (.type B) = true) (ha : (Value.ref C :: bm).contains (.type "AttributeError") = false) (hn : (Value.ref C :: bm).contains (.type "NameError") = false)
    (hi : findIn K (.ref C) "__init__" = some (some (.ref fI))) (hf : typeIn K (.ref fI) = some (.type "function")) (hrest : rest.length ≤ sizeLine)
    (hq : wpAny (model prog w) (A.under (.builtin "type.__call__" ⟨.ref C :: rest, []⟩)) (call (.ref fI) (.ref (h.objs.size + 1) :: rest)) (fun r s' => r = .none ∧ Q (.ref (h.objs.size + 1)) s') E
      ⟨(h.push (tpO rest)).push (exO C h.objs.size none), g, d, t, os⟩) :
    wpAny (model prog w) A (call (.ref C) rest) Q E ⟨h, g, d, t, os⟩ := by
  have f1 := tc_lookup
  have f2 := tc_bind (.ref C)
  have hT : (⟨h, g, d, t, os⟩ : Shared).TypeIs (.ref C) "type" := ⟨_, hC, rfl⟩
  refine wpAny_call (codeAny_of_tree ?_)
  show wpAny _ _ (callAny (.ref C) _) _ _ _
  repeat (any_goals (first | assumption | with_reducible refine wpAny_loadPart_at hC ?_ | wp_step))
  refine ⟨rfl, ?_⟩
  refine codeAny_call_builtin_at (Code.quiet_builtin _ (by decide +kernel)) entry_typeCall (wpAny_check_type_call_sub hC ?_)
  repeat (first | with_reducible refine wpAny_loadPart_at hC ?_ | with_reducible refine wpAny_madeBy_exc hC ?_ | wp_step)
  refine exc_born Fn hC hb ha hn ?_ hrest
  show wpAny _ _ _ _ _ _
  have up : ∀ b o, h.get? b = some o → ((h.push (tpO rest)).push (exO C h.objs.size none)).get? b = some o := fun b o e => Heap.get?_push_of_some _ (Heap.get?_push_of_some _ e)
  have X₁ := X.keeps up
  have hC₁ := up _ _ hC
  have hget : ((h.push (tpO rest)).push (exO C h.objs.size none)).get? (h.objs.size + 1) = some (exO C h.objs.size none) := by heap_get
  have hcC : (Value.ref C :: bm).contains (.ref C) = true := by simp
  unfold isInstance
  repeat (first | with_reducible refine wpAny_loadPart_at hget ?_ | wp_step)
  show wpAny _ _ (isSubtype (.ref C) (.ref C)) _ _ _
  refine wpAny_isSubtype_exc hC₁ ?_
  rw [hcC]
  repeat wp_step
  show wpAny _ _ (typeLookup (.ref C) _) _ _ _
  refine (looks_findIn X₁ hi).here ?_
  refine wpAny_holding (wpAny_bind ((bind_fn X₁ _ hf).here ?_))
  refine wpAny_bind ?_
  refine wpAny_mono hq (fun r s' hr => ?_) fun _ _ x => x
  obtain ⟨rfl, hQ⟩ := hr
  wp_walk
  exact hQ
end
end
section
open PySem.Calls PySem.Spec PyProof.V Builtin Builtin.ObjectAttr
/-! ## an exception's own attributes: the first store makes its dict -/
structure PfCls (K : Frag) (C : Addr) (cd : ClassData) : Prop where
  cls : clsIn K C = some cd
  top : mroIn K C (.type "object") = some true
  seta : findIn K (.ref C) "__setattr__" = some (some (.builtin "object.__setattr__"))
  pass : ∀ self, refuseLoop self "__setattr__" cd.mro = pure ()
  dict : cd.hasDict = true
section
variable {prog : Program} {w : World} {A : Around} {E : Value → Shared → Prop} {K : Frag} {C x : Addr} {cd : ClassData} {s : Shared} {R : Result → Shared → Prop} {h₀ : Heap} {L : Addr} {m : Str → Option Value} {news : Led}
theorem pf_open {ox : Obj} {od : Option Obj} {name : Str} {tk : Tok} {v : Value} (X : K.In s.heap) (P : PfCls K C cd) (I : InstAt s.heap x ox C od) (ht : findIn K (.ref C) name = some none)
    (h : wpAny (model prog w) A.in1 (storeInOwnDict (.ref x) (.ref C) (.str name tk) name v false)
      (fun fin s' => match fin with | .done f => R (.ok f) s' | .again c' => c'.quiet = true ∧ codeAny (model prog w) A c' R s') (fun e s' => R (.error e) s') s) :
    codeAny (model prog w) A (.call (.builtin "object.__setattr__") ⟨[.ref x, .str name tk, v], []⟩) R s := by
  have SF := PySem.F.store_object
  have sub : Looks (model prog w) s.heap (isInstance (.ref x) (.type "object")) true := I.type.andThen (looks_mroIn X P.top)
  refine codeAny_call_builtin SF.slot.plain SF.entry (@check_slot (model prog w) _ _ s "object.__setattr__" "object" "__setattr__" (.ref x) [.str name tk, v] [] _ SF.kind SF.split sub (SF.args (.ref x) (.str name tk) v) ?_)
  have hm : Looks (model prog w) s.heap (mroOf (.ref C)) cd.mro := (looks_clsIn X P.cls).andThen .now
  rw [osa_eq, refuse_eq]
  refine wpAny_bind (wpAny_bind (I.type.here (wpAny_bind (hm.here ?_))))
  rw [P.pass]
  refine wpAny_pure (wpAny_bind (I.type.here (wpAny_bind ((looks_findIn X ht).here ?_))))
  exact wpAny_bind (wpAny_pure h)
theorem pf_set {ox : Obj} {od : Option Obj} {name : Str} {v : Value} {Q : Unit → Shared → Prop} (X : K.In s.heap) (P : PfCls K C cd) (I : InstAt s.heap x ox C od) (ht : findIn K (.ref C) name = some none)
    (h : wpAny (model prog w) (A.in1) (storeInOwnDict (.ref x) (.ref C) (.str name s.toks) name v false)
      (fun fin s' => match fin with | .done (.ret _) => Q () s' | _ => False) (fun e s' => E e s') { s with toks := s.toks + 1 }) :
    wpAny (model prog w) A (setAttr (.ref x) name v) Q E s :=
  set_plain X I P.seta (pf_open (s := { s with toks := s.toks + 1 }) X P I ht (wpAny_mono h (fun fin s' z => by
    rcases fin with (v | _ | _ | _) | c <;> first | exact z | exact z.elim) fun _ _ z => z))
theorem pf_set1 {t : Addr} {g : Obj → Led} {name : Str} {v : Value} {Q : Unit → Shared → Prop} (F : Fr h₀ L s.heap m) (N : News h₀ L s.heap news) (X₀ : K.In h₀) (P : PfCls K C cd) (U : UpdF x (exO C t none) news g) (ht : findIn K (.ref C) name = some none)
    (h : ∀ dx h' tk', Fr h₀ L h' m → News h₀ L h' (g (exO C t (some dx))) → AllLt dx (g (exO C t (some dx))) → dx ≠ L → h₀.get? dx = none → h'.Ns1 dx (fun y => if y = name then some v else none) → Q () { s with heap := h', toks := tk' }) :
    wpAny (model prog w) A (setAttr (.ref x) name v) Q E s := by
  obtain ⟨pre, post, rfl, hg, h1, h2⟩ := U.split
  have X := X₀.keeps F.keep
  have hx := (N (x, exO C t none) (by simp)).1
  have I : InstAt s.heap x (exO C t none) C none := ⟨hx, rfl, rfl, trivial⟩
  refine pf_set X P I ht ?_
  obtain ⟨hp, gg, d, tk, os⟩ := s
  dsimp only at F N X hx I h ⊢
  unfold storeInOwnDict
  refine wpAny_bind (wpAny_pure (wpAny_bind (wpAny_bind (wpAny_loadPart hx (wpAny_bind ((looks_clsIn X P.cls).here ?_))))))
  rw [P.dict]
  show wpAny _ _ (alloc { cls := .type "dict", data := .dict #[] } >>= fun d => update x (fun o => { o with dict := some d }) >>= fun _ => dictMade (.ref C) x d) _ _ _
  have hx₁ : (hp.push { cls := .type "dict", data := .dict #[] }).get? x = some (exO C t none) := Heap.get?_push_of_some _ hx
  have hxs : x ≠ hp.objs.size := Nat.ne_of_lt (Heap.lt_size hx)
  refine wpAny_bind (wpAny_alloc (wpAny_bind (wpAny_update hx₁ ?_)))
  refine wpAny_pure ?_
  show wpAny _ _ (storeInDict hp.objs.size _ _ _) _ _ _
  unfold storeInDict newKeyGuard
  have N₁ : News h₀ L (hp.push { cls := .type "dict", data := .dict #[] }) (pre ++ (x, exO C t none) :: post) := N.grown fun _ _ e => Heap.get?_push_of_some _ e
  obtain ⟨F₂, N₂⟩ := news_upd (f := fun o => { o with dict := some hp.objs.size }) (o' := exO C t (some hp.objs.size)) (F.push _) N₁ h1 h2 rfl rfl
  have hL : L < hp.objs.size := F.ns.lt
  have h0 : h₀.get? hp.objs.size = none := next_is_new F
  have lt : ∀ p ∈ pre ++ (x, exO C t (some hp.objs.size)) :: post, @LT.lt Nat _ p.1 hp.objs.size := fun p hp' => by
    rcases List.mem_append.mp hp' with q | q
    · exact Heap.lt_size (N p (List.mem_append.mpr (.inl q))).1
    · rcases List.mem_cons.mp q with rfl | q
      · exact Heap.lt_size hx
      · exact Heap.lt_size (N p (List.mem_append.mpr (.inr (.tail _ q)))).1
  have hgd : ((hp.push { cls := .type "dict", data := .dict #[] }).update x fun o => { o with dict := some hp.objs.size }).get? hp.objs.size = some { cls := .type "dict", data := .dict #[] } :=
    (Heap.get?_update_ne _ _ _ _ hxs.symm).trans (Heap.get?_push_size _ rfl)
  have hnd : ((hp.push { cls := .type "dict", data := .dict #[] }).update x fun o => { o with dict := some hp.objs.size }).Ns hp.objs.size (fun _ => none) :=
    ⟨_, #[], _, hgd, rfl, fun e he => absurd he (by simp), fun _ => rfl⟩
  refine wpAny_bind (wpAny_pure (wpAny_bind (wpAny_nsSet1 (Heap.Ns1.of_empty hnd) fun h' hn' hs => ?_)))
  obtain ⟨oD, esD, epD, hoD, hdD, hcD⟩ := hn'.count (Within.cons name v Within.nil)
  refine wpAny_bind (wpAny_lookBehind hoD (by rw [hdD]; exact pastItsLine_dict (Nat.le_trans hcD (by rw [List.length_cons, List.length_nil, sizeLine_eq]; omega))) ?_)
  have e := hg (exO C t (some hp.objs.size))
  refine wpAny_pure (h hp.objs.size h' _ (F₂.change hs (Nat.ne_of_gt hL) h0) ?_ ?_ (Nat.ne_of_gt hL) h0 hn')
  · rw [e]; exact fun p hp' => ⟨hs.extBut _ _ (Nat.ne_of_lt (lt p hp')) (N₂ p hp').1, (N₂ p hp').2⟩
  · rw [e]; exact allLt_of lt
theorem pf_set2 {t dx : Addr} {name n₁ : Str} {v v₁ : Value} {Q : Unit → Shared → Prop} (F : Fr h₀ L s.heap m) (N : News h₀ L s.heap news) (X₀ : K.In h₀) (P : PfCls K C cd) (hm : (x, exO C t (some dx)) ∈ news) (ht : findIn K (.ref C) name = some none)
    (off : AllLt dx news) (hL : dx ≠ L) (h0 : h₀.get? dx = none) (hd : s.heap.Ns1 dx (fun y => if y = n₁ then some v₁ else none))
    (h : ∀ h' tk', Fr h₀ L h' m → News h₀ L h' news → Q () { s with heap := h', toks := tk' }) :
    wpAny (model prog w) A (setAttr (.ref x) name v) Q E s := by
  have X := X₀.keeps F.keep
  have hx := (N _ hm).1
  obtain ⟨oD₀, _, _, hoD₀, _⟩ := id hd
  have I : InstAt s.heap x (exO C t (some dx)) C (some oD₀) := ⟨hx, rfl, rfl, hoD₀⟩
  refine pf_set X P I ht ?_
  obtain ⟨hp, gg, d, tk, os⟩ := s
  dsimp only at F N X hx I h hd ⊢
  unfold storeInOwnDict
  refine wpAny_bind (wpAny_pure (wpAny_bind (wpAny_bind (wpAny_loadPart hx (wpAny_bind ((looks_clsIn X P.cls).here ?_))))))
  rw [P.dict]
  refine wpAny_pure (a := some dx) ?_
  show wpAny _ _ (storeInDict dx _ _ _) _ _ _
  unfold storeInDict newKeyGuard
  refine wpAny_bind (wpAny_pure (wpAny_bind (wpAny_nsSet1 hd fun h' hn' hs => ?_)))
  obtain ⟨oD, esD, epD, hoD, hdD, hcD⟩ := hn'.count (Within.cons name v (Within.cons n₁ v₁ Within.nil))
  refine wpAny_bind (wpAny_lookBehind hoD (by rw [hdD]; exact pastItsLine_dict (Nat.le_trans hcD (by simp only [List.length_cons, List.length_nil, sizeLine_eq]; omega))) ?_)
  exact wpAny_pure (h h' _ (F.change hs hL h0) fun p hp' => ⟨hs.extBut _ _ (Nat.ne_of_lt (ktn_ltOf off p hp')) (N p hp').1, (N p hp').2⟩)
end
end
section
open PySem.Calls PySem.Spec PyProof.V Builtin Builtin.ObjectAttr
/-! ## the raise, the frame's leaving, the catch -/
def RaisePf (K : Frag) (C : Addr) (E : Value → Shared → Prop) (v : Value) (s₁ : Shared) : Prop :=
  ∃ a ob vs, v = .ref a ∧ K.In s₁.heap ∧ s₁.heap.get? a = some ob ∧ ob.cls = .ref C ∧ ob.data = .fields vs ∧ vs[1]? = some .none ∧ E (.ref a) s₁
theorem RaisePf.intro {K : Frag} {C a t : Addr} {dd : Option Addr} {E : Value → Shared → Prop} {s : Shared} {h₀ : Heap} {L : Addr} {m : Str → Option Value} {news : Led} (F : Fr h₀ L s.heap m) (N : News h₀ L s.heap news) (X : K.In h₀) (hm : (a, exO C t dd) ∈ news) (h : E (.ref a) s) : RaisePf K C E (.ref a) s :=
  ⟨a, _, _, rfl, X.keeps F.keep, (N _ hm).1, rfl, rfl, rfl, h⟩
section
variable {M : Model} {A : Around} {E : Value → Shared → Prop} {s : Shared} {env : Env} {K : Frag} {C : Addr}
theorem raise_pf {e : PySem.Expr} {pos : Pos} {Q : Flow → Shared → Prop} (hb : mroIn K C (.type "BaseException") = some true) (ht : typeIn K (.ref C) = some (.type "type")) (hh : A.handled = none)
    (h : wpAny M A (eval e env) (RaisePf K C E) E s) : wpAny M A (exec (.Raise (some e) none pos) env) Q E s := by
  show wpAny M A (do standAt pos; raiseStmt env (some (do let v ← eval e env; standAt pos; pure v)) none) Q E s
  refine wpAny_bind (wpAny_standAt ?_)
  unfold raiseStmt
  dsimp only
  refine wpAny_bind (wpAny_bind (wpAny_mono h (fun v s₁ h₁ => wpAny_bind (wpAny_standAt (wpAny_pure ?_))) fun _ _ x => x))
  obtain ⟨a, ob, vs, rfl, X, ha, hcls, hd, h1, hE⟩ := h₁
  have T : Looks M s₁.heap (typeOf (.ref a)) (.ref C) := hcls ▸ (Looks.ld (part := some headPart) ha).andThen .now
  have hnt : ∀ {Q' : Bool → Shared → Prop}, Q' false s₁ → wpAny M A (isType (.ref a)) Q' E s₁ := by
    intro Q' hq
    simp only [isType, loadHead]
    refine wpAny_bind (wpAny_loadPart ha ?_)
    rw [hd]; exact wpAny_pure hq
  have I : Looks M s₁.heap (isInstance (.ref a) (.type "BaseException")) true := T.andThen (looks_mroIn X hb)
  refine wpAny_bind (wpAny_pure ?_)
  dsimp only
  refine wpAny_bind (wpAny_holding ?_)
  unfold excFromValue isExcClass
  refine wpAny_bind (wpAny_bind (hnt ?_))
  simp only [Bool.false_eq_true, if_false]
  refine wpAny_pure ?_
  simp only [Bool.false_eq_true, if_false]
  refine wpAny_bind (I.here ?_)
  simp only [if_true]
  refine wpAny_pure ?_
  refine wpAny_bind (hnt ?_)
  simp only [Bool.false_eq_true, if_false]
  unfold raisedInstance
  refine wpAny_bind (wpAny_bind (T.here (wpAny_bind ((looks_typeIn X ht).here ?_))))
  rw [if_pos (by decide)]
  refine wpAny_pure ?_
  unfold setFlight raiseNew
  refine wpAny_bind (wpAny_bind (wpAny_field ha hd h1 ?_))
  rw [if_neg (by decide)]
  refine wpAny_pure (wpAny_bind (wpAny_handled ?_))
  rw [hh]
  exact wpAny_bind (wpAny_pure (wpAny_throw hE))
end
end
section
open PySem.Calls PySem.Spec PyProof.V Builtin Builtin.ObjectAttr
section
variable {M : Model} {A : Around} {E : Value → Shared → Prop} {s' : Shared} {base g : Heap} {outer : List Env} {L a x t C : Addr} {m : Str → Option Value} {name : Str} {scope : Scope} {cd : Value} {Q : Unit → Shared → Prop} {news nw : Led} {dd : Option Addr} {vs : List Value}
theorem leave_pf (K : Below A base outer g) (F : Fr g L s'.heap m) (N : News g L s'.heap news) (hx : (x, exO C t dd) ∈ news) (ht : (t, tpO vs) ∈ news) (hw : ∀ p ∈ nw, p ∈ news ∧ p.1 ≠ x ∧ p.1 ≠ t)
    (hQ : ∀ h', RaisedS base g outer x (.ref C) t vs nw h' → g.UpToSlots h' → Q () { s' with heap := h' }) (hk : scope.kind = .function := by rfl) :
    wpAny M (A.deeper (envOf name scope L a cd)) (leaving (envOf name scope L a cd) (.ref x)) Q E s' := by
  have K' := K.push (name := name) (a := a) (cd := cd) F hk
  have hin : ∀ env ∈ (envOf name scope L a cd :: outer), ∀ b, env.frame = some b → b ∈ x :: t :: (envOf name scope L a cd :: outer).filterMap (·.frame) := fun env he b hb => .tail _ (.tail _ (List.mem_filterMap.mpr ⟨env, he, hb⟩))
  have nx := N _ hx
  have nt := N _ ht
  have bx : base.get? x = none := fresh_of_stays K.stays nx.2.2
  have bt : base.get? t = none := fresh_of_stays K.stays nt.2.2
  have nfr : ∀ {b : Addr} {o : Obj}, (b, o) ∈ news → b ∉ (envOf name scope L a cd :: outer).filterMap (·.frame) := fun {b o} hb hm => by
    have nb := N _ hb
    rcases kts_mem hm with z | z
    · exact nb.2.1 z
    · obtain ⟨env, he, hf⟩ := List.mem_filterMap.mp z
      obtain ⟨o, ho, _⟩ := (K.frames.mem (List.mem_filterMap.mpr ⟨env, he, hf⟩)).2
      rw [nb.2.2] at ho; cases ho
  have st : base.StaysIn (hideAll s'.heap (x :: t :: (envOf name scope L a cd :: outer).filterMap (·.frame))) := fun b o q => hideAll_get _ (K'.stays b o q) fun hm => by
    rcases List.mem_cons.mp hm with rfl | hm
    · rw [bx] at q; cases q
    rcases List.mem_cons.mp hm with rfl | hm
    · rw [bt] at q; cases q
    rw [(K'.frames.mem hm).1] at q; cases q
  have sg : ∀ b o, g.get? b = some o → b ∉ outer.filterMap (·.frame) → (hideAll s'.heap (x :: t :: (envOf name scope L a cd :: outer).filterMap (·.frame))).get? b = some o := fun b o q nm => hideAll_get _ (F.keep b o q) fun hm => by
    rcases List.mem_cons.mp hm with rfl | hm
    · rw [nx.2.2] at q; cases q
    rcases List.mem_cons.mp hm with rfl | hm
    · rw [nt.2.2] at q; cases q
    rcases kts_mem hm with z | z
    · rw [z, kts_self F] at q
      cases q
    · exact nm z
  have hl : ∀ q ∈ nw, (hideAll s'.heap (x :: t :: (envOf name scope L a cd :: outer).filterMap (·.frame))).get? q.1 = some q.2 ∧ g.get? q.1 = none ∧ base.get? q.1 = none := fun q hq => by
    obtain ⟨hq', h1, h2⟩ := hw q hq
    refine ⟨hideAll_get _ (N q hq').1 fun hm => ?_, (N q hq').2.2, fresh_of_stays K.stays (N q hq').2.2⟩
    rcases List.mem_cons.mp hm with z | hm
    · exact h1 z
    rcases List.mem_cons.mp hm with z | hm
    · exact h2 z
    exact nfr hq' hm
  refine wpAny_leaving_firstW (a0 := .ref t) K'.stack (funFrames_hide K'.frames hin) rfl nx.1 (fun b o q => of_hideAll _ q) (hideAll_none _ (.head _)) rfl rfl rfl fun h' hL => ?_
  obtain ⟨k1, ⟨_, _, k2⟩, k3, k4⟩ := hL
  exact hQ h' ⟨⟨_, st, sg, hl, ⟨k1, hideAll_none _ (.head _), k2, k3⟩, hideAll_none _ (.tail _ (.head _))⟩, Heap.TupAt.of_slots ⟨_, _, nt.1, rfl, rfl⟩ k4⟩ ((Heap.UpToSlots.of_keeps F.keep).trans k4)
end

/-! ## to call a def in which something may be caught, from any frame -/
section
variable {prog : Program} {w : World} {A₀ A : Around} {s : Shared} {base h₀ : Heap} {L : Addr} {m : Str → Option Value} {env : Env} {news : Led} {K : Frag} {p : Program} {loose : List Str} {mean : ExcName → Option Value} {mg mb : Str → Option Value}
    {R : Result → Shared → Prop} {name qual : Str} {params : Arguments} {body : List Stmt} {scope : Scope} {dV kV doc pm cdv ct oc : Value} {an od : Option Addr} {osl : Array (Option Value)} {f : Addr} {args : Args} {binds : List (Str × Value)}
theorem enterT {outer : List Env} (B : Below A₀ base outer h₀) (F : Fr h₀ L s.heap m) (N : News h₀ L s.heap news) (hA : A.frames = some (env :: outer)) (hf : env.frame = some L) (hke : env.scope.kind = .function) :
    ∃ oL es ep, (hideAll s.heap (news.map (·.1))).get? L = some oL ∧ oL.data = .dict es ep ∧ (∀ h', h'.get? L = some oL → Heap.Ns h' L m) ∧ (∀ (sl : Array (Option Value)) h', h'.get? L = some { oL with slots := sl } → Heap.Ns h' L m) ∧
      h₀.StaysIn (hideAll s.heap (news.map (·.1))) ∧ Below A base (env :: outer) (hideAll s.heap (news.map (·.1))) := by
  obtain ⟨_, BG, st, _⟩ := groundX (R := fun _ _ => True) B F N hA hf hke
  obtain ⟨oL, es, ep, hL, hLd, hLk, hLf⟩ := F.ns
  have nL : L ∉ news.map (·.1) := fun q => by
    obtain ⟨p, hp, e⟩ := List.mem_map.mp q
    exact (N p hp).2.1 e
  exact ⟨oL, es, ep, hideAll_get (news.map (·.1)) hL nL, hLd, fun h' e => ⟨oL, es, ep, e, hLd, hLk, hLf⟩, fun sl h' e => ⟨_, es, ep, e, hLd, hLk, hLf⟩, st, BG⟩

theorem code_defT (B : Below A₀ base [] h₀) (F : Fr h₀ L s.heap m) (X₀ : K.In h₀) (N : News h₀ L s.heap news) (T : Top p loose mean mg mb h₀) (hA : A.frames = some [env]) (hf : env.frame = some L) (hke : env.scope.kind = .function)
    (ho : K.lookup f = some ⟨oc, od, .func (fnOf name qual params body scope dV kV doc pm an cdv ct), osl⟩) (hcd : codeIn K cdv qual = true) (hroom : A.depth < recursionLimit)
    (hbind : BindsTo s (fnOf name qual params body scope dV kV doc pm an cdv ct) args binds) (hloc : ∀ y ∈ binds, scope.names.lookup y.1 = some .local)
    (h : ∀ g L' h₁, Fr h₀ L g m → Fr g L' h₁ (fun y => binds.reverse.lookup y) → News g L' h₁ news → Below A base [env] g → K.In g → Top p loose mean mg mb g → KtsDicts ([env].filterMap (·.frame)) g →
      wpAny (model prog w) (A.deeper (envOf qual scope L' f cdv)) (execs body (envOf qual scope L' f cdv))
        (fun fl s' => LeaveS0 ([env].filterMap (·.frame)) h₀ L m g R (match fl with | .ret v => v | _ => .none) s')
        (fun e s' => wpAny (model prog w) (A.deeper (envOf qual scope L' f cdv)) (leaving (envOf qual scope L' f cdv) e) (fun _ s'' => R (.error e) s'') (fun e' s'' => R (.error e') s'') s')
        { s with heap := h₁, toks := s.toks + binds.length })
    (hco : scope.isCoroutine = false) (hgen : scope.isGenerator = false) (hk : scope.kind = .function)
    (hcell : ∀ x ∈ scope.names, x.2 ≠ .cell) : codeAny (model prog w) A (.call (.ref f) args) R s := by
  have X := X₀.keeps F.keep
  refine codeAny_call_def (fd := fnOf name qual params body scope dV kV doc pm an cdv ct) (body := body) (binds := binds) hroom (X _ _ ho) rfl (T.nolimit.keeps F.keep) (codeRec_of X hcd) rfl hbind hcell hloc (fun h₁ hns hk₁ => ?_) hco hgen hk
  obtain ⟨oL, es, ep, hLg, hLd, hN, hNs, st, B₂⟩ := enterT B F N hA hf hke
  have only : ∀ b ∈ [env].filterMap (·.frame), b = L := fun b hb => by
    obtain ⟨e, he, hb⟩ := List.mem_filterMap.mp hb
    rw [List.mem_singleton.mp he, hf] at hb
    exact (Option.some.inj hb).symm
  refine wpAny_mono (h _ s.heap.objs.size h₁ ⟨hN _ hLg, st, F.above⟩ ⟨hns, fun b o e => hk₁ b o (of_hideAll _ e), Nat.le_of_eq (hideAll_size _ _)⟩
    (fun p hp => ⟨hk₁ _ _ (N p hp).1, Nat.ne_of_lt (Heap.lt_size (N p hp).1), hideAll_none _ (List.mem_map_of_mem hp)⟩) B₂ (X₀.keeps st) (T.keeps st) (fun b hb => by
      rw [only b hb]
      exact ⟨oL, es, ep, hLg, hLd⟩)) (fun fl s' hl => ?_) fun _ _ y => y
  obtain ⟨g', L', m', news', T', F', N', k⟩ := hl
  have nL₀ : h₀.get? L = none := kts_self F
  obtain ⟨sl, hs⟩ := T'.up hLg
  refine k ⟨hNs sl _ (F'.keep _ _ hs), fun b o e => F'.keep b o (T'.other b o (st b o e) (fun q => by
    rw [only b q, nL₀] at e
    cases e)), F.above⟩ fun p hp => ⟨(N' p hp).1, fun q => ?_, ?_⟩
  · have := (N' p hp).2.2; rw [q, hs] at this; cases this
  · cases q : h₀.get? p.1 with
    | none => rfl
    | some o =>
      obtain ⟨sl', hs'⟩ := T'.up (st _ _ q)
      have := (N' p hp).2.2
      rw [hs'] at this
      cases this
end

/-- as Gives, of a def in which something may be caught: called from the law's own frame -/
@[irreducible] def GivesT (w : World) (mean : ExcName → Option Value) (mg mb : Str → Option Value) (n : Nat) (f : Addr) (news : Led) (vs : List Value) (g : Bool) : Prop :=
  ∀ (dp un : Nat) (gd : Option (List Code)) (cn : Str) (cs : Scope) (a : Addr) (ccd : Value) (cl : List (Str × Addr)) (A₀ : Around) (h₀ : Heap) (L : Addr) (m : Str → Option Value) (s : Shared) (nw : Led)
    (Q E : Value → Shared → Prop),
    Below A₀ h₀ [] h₀ → Fr h₀ L s.heap m → (hd.heap_39 w.params).In h₀ → News h₀ L s.heap nw → Top hd.view_39 (looseW hd.view_39 [Str.ofString "fraction", Str.ofString "direction"]) mean mg mb h₀ → cs.kind = .function → (∀ p ∈ news, p ∈ nw) → dp + n < recursionLimit → un + 8 * n < cLine →
    (∀ h' tk', Fr h₀ L h' m → News h₀ L h' nw → Q (.bool g) { s with heap := h', toks := tk' }) →
    wpAny (model PySem.Challenge.rw_on0222_01.row.prog w) (ktrTop dp un gd cn cs L a ccd cl []) (call (.ref f) vs) Q E s
theorem GivesT.use {w : World} {mean : ExcName → Option Value} {mg mb : Str → Option Value} {n : Nat} {f : Addr} {news : Led} {vs : List Value} {g : Bool} {dp un : Nat} {gd : Option (List Code)} {cn : Str} {cs : Scope} {a : Addr} {ccd : Value} {cl : List (Str × Addr)} {A₀ : Around} {h₀ : Heap} {L : Addr} {m : Str → Option Value} {s : Shared} {nw : Led}
    {Q E : Value → Shared → Prop} (B : Below A₀ h₀ [] h₀) (F : Fr h₀ L s.heap m) (X : (hd.heap_39 w.params).In h₀) (N : News h₀ L s.heap nw) (T : Top hd.view_39 (looseW hd.view_39 [Str.ofString "fraction", Str.ofString "direction"]) mean mg mb h₀) (hk : cs.kind = .function)
    (C : GivesT w mean mg mb n f news vs g) (hn : ∀ p ∈ news, p ∈ nw) (hd : dp + n < recursionLimit) (hu : un + 8 * n < cLine)
    (ret : ∀ h' tk', Fr h₀ L h' m → News h₀ L h' nw → Q (.bool g) { s with heap := h', toks := tk' }) :
    wpAny (model PySem.Challenge.rw_on0222_01.row.prog w) (ktrTop dp un gd cn cs L a ccd cl []) (call (.ref f) vs) Q E s := by
  unfold GivesT at C
  exact C _ _ _ _ _ _ _ _ _ _ _ _ _ _ _ _ B F X N T hk hn hd hu ret
end
section
theorem pf_call {prog : Program} {w : World} {A : Around} {K : Frag} {h₀ : Heap} {L : Addr} {m : Str → Option Value} {s : Shared} {news : Led} {B newId : String} {bmB rest : List Value} {fI C N : Addr} {Q : Value → Shared → Prop} {E : Value → Shared → Prop}
    {nm q : Str} {bs bm : List Value} {hdct : Bool} {sn : List Str} {sub : List Value} {ab : Bool} {col : Option Bool} {dd : Option Addr} {k0 k1 k2 k3 k5 : Option Value}
    (F : Fr h₀ L s.heap m) (Nw : News h₀ L s.heap news) (X : K.In h₀) (Fn : ExcBaseFacts B newId initId bmB)
    (hC : K.lookup C = some (excClassObj nm q C N bs bm hdct sn sub ab col dd k0 k1 k2 k3 k5 newId))
    (hb : (Value.ref C :: bm).contains (.type B) = true) (ha : (Value.ref C :: bm).contains (.type "AttributeError") = false) (hn : (Value.ref C :: bm).contains (.type "NameError") = false)
    (hi : findIn K (.ref C) "__init__" = some (some (.ref fI))) (hf : typeIn K (.ref fI) = some (.type "function")) (hrest : rest.length ≤ sizeLine)
    (h : ∀ t x h', Fr h₀ L h' m → News h₀ L h' ((x, exO C t none) :: (t, tpO rest) :: news) → AllLt t news → @LT.lt Nat _ t x →
      wpAny (model prog w) (A.under (.builtin "type.__call__" ⟨.ref C :: rest, []⟩)) (call (.ref fI) (.ref x :: rest)) (fun r s' => r = .none ∧ Q (.ref x) s') E { s with heap := h' }) :
    wpAny (model prog w) A (call (.ref C) rest) Q E s := by
  obtain ⟨hp, gg, d, tk, os⟩ := s
  dsimp only at F Nw h
  have Xs := X.keeps F.keep
  have F₁ := F.push (tpO rest)
  have N₁ := News.push (o := tpO rest) F Nw
  have F₂ := F₁.push (exO C hp.objs.size none)
  have N₂ := News.push (o := exO C hp.objs.size none) F₁ N₁
  have e : (hp.push (tpO rest)).objs.size = hp.objs.size + 1 := Heap.size_push _ _
  rw [e] at N₂
  exact exc_called Xs Fn (Xs _ _ hC) hb ha hn hi hf hrest (h hp.objs.size (hp.objs.size + 1) _ F₂ N₂ (allLt_of fun p hp' => Heap.lt_size (Nw p hp').1) (Nat.lt_succ_self _))
theorem pf_tell {Q : Value → Shared → Prop} {r : Value} {x : Addr} {s' : Shared} (h : Q (.ref x) s') (e : r = .none) : r = .none ∧ Q (.ref x) s' := ⟨e, h⟩
theorem off_pf {t x : Addr} {nw news : Led} (h : AllLt t nw) (l : @LT.lt Nat _ t x) (s : ∀ p ∈ nw, p ∈ news) : ∀ p ∈ nw, p ∈ news ∧ p.1 ≠ x ∧ p.1 ≠ t := fun p hp =>
  ⟨s p hp, Nat.ne_of_lt (Nat.lt_trans (ktn_ltOf h p hp) l), Nat.ne_of_lt (ktn_ltOf h p hp)⟩
theorem raise_pfX {M : Model} {A : Around} {E : Value → Shared → Prop} {s : Shared} {env : Env} {K : Frag} {C : Addr} {h₀ : Heap} {e : PySem.Expr} {pos : Pos} {Q : Flow → Shared → Prop} (_ : K.In h₀) (hb : mroIn K C (.type "BaseException") = some true) (ht : typeIn K (.ref C) = some (.type "type")) (hh : A.handled = none)
    (h : wpAny M A (eval e env) (RaisePf K C E) E s) : wpAny M A (exec (.Raise (some e) none pos) env) Q E s := raise_pf hb ht hh h
theorem gendT {h₀ h' : Heap} {L : Addr} {m : Str → Option Value} {nw news' : Led} {s : Shared} {Q : Value → Shared → Prop} {g : Bool} {tk' : Nat} (hret : ∀ h' tk', Fr h₀ L h' m → News h₀ L h' nw → Q (.bool g) { s with heap := h', toks := tk' })
    (F : Fr h₀ L h' m) (N : News h₀ L h' news') (hs : ∀ p ∈ nw, p ∈ news') : Q (.bool g) { s with heap := h', toks := tk' } := hret h' tk' F (cb_drop N hs)
theorem reg11 : True := by
  k_with "call ref" => (k_here; (with_reducible show wpAny _ _ (call (Value.ref 135) _) _ _ _); refine wpAny_call ?_; k_dflt ktr_enter)
  k_with "call ref" => (k_here; (with_reducible show wpAny _ _ (call (Value.ref 60) _) _ _ _); refine wpAny_call ?_; k_dflt ktr_enter)
  k_with "exec Raise some none" => (k_here; k_dflt (refine' raise_pfX (C := 63) (by k_asm) (by k_is) (by k_is) (by with_unfolding_all rfl) ?_))
  k_with "call ref" => (k_here; (with_reducible show wpAny _ _ (call (Value.ref 63) _) _ _ _); k_dflt (refine' pf_call (by k_asm) (by k_asm) (by k_asm) PySem.F.excBase_Exception (by k_is) rfl rfl rfl (by k_is) (by k_is) (by exact Nat.le_of_ble_eq_true rfl) ?_); intro t9 x9 h9 F9 N9 l9 l8)
  k_with "setAttr ref" => (k_here; k_dflt (refine' pf_set1 (by k_asm) (by k_asm) (by k_asm) (by assumption) (by k_updF) (by k_is) ?_); intro dx9 h9 tk9 F9 N9 l9 n9 e9 d9)
  k_with "setAttr ref" => (k_here; k_dflt (refine' pf_set2 (by k_asm) (by k_asm) (by k_asm) (by assumption) (by k_extra "kcj_q") (by k_is) (by assumption) (by assumption) (by assumption) (by assumption) ?_); intro h9 tk9 F9 N9)
  k_with "RaisePf" => (k_dflt (refine' RaisePf.intro (by k_asm) (by k_asm) (by k_asm) (by k_extra "kcj_q") ?_))
  k_with "leaving ref" => (k_here; k_dflt (refine' leave_pf (by k_asm) (by k_asm) (by k_asm) (by k_extra "kcj_q") (by k_extra "kcj_q") (off_pf (by assumption) (by assumption) (by kd_subs)) ?_); intro h9 R9 U9; (try dsimp only at R9 U9 ⊢))
  k_with "ktr_enter" => (refine' code_defT (by k_asm) (by k_asm) (by k_asm) (by k_asm) (by k_asm) rfl rfl (by first | assumption | exact rfl) (by k_is) (by k_is) (by k_extra "my room") (by first | exact BindsTo.of_eq rfl | exact binds_K (by k_in) rfl (by k_is) rfl rfl rfl | fail "no rule for these arguments") (locs rfl) ?_ rfl rfl rfl (by decide); k_whole; intro g' L' h' FG' F' N' B' X' T' D'; (try dsimp only); (try k_fold))
  k_with "my endT" => (refine' gendT (by assumption) (by assumption) (by assumption) (by kd_subs))
  trivial
set_option maxRecDepth 100000 in
set_option maxHeartbeats 4000000 in
theorem ct_refused {w : World} {mean : ExcName → Option Value} {mg mb : Str → Option Value} {news : Led} {vp : Value} {sA : Addr} {n : Nat} {wd : Str} {t1 : Tok} {vr : List Value} (hw : WordIs wd false) (ms : (sA, ({ cls := .type "tuple", data := .seq (.str wd t1 :: vr).toArray n } : Obj)) ∈ news) :
    GivesT w mean mg mb 14 199 news [.ref sA, vp] true := by
  unfold GivesT
  k_fill
  have hM := kdMark
  obtain ⟨cd, P⟩ : ∃ cd, PfCls (hd.heap_39 w.params) 63 cd := ⟨_, ⟨by k_is, by k_is, by k_is, fun _ => rfl, rfl⟩⟩
  intro dp un gd cn cs a ccd cl A₀ h₀ L m s nw Q E B F X N T hk hn hd hu hret
  replace ms := hn _ ms
  refine wpAny_call ?_
  k_dflt ktr_enter
  k_steps
  all_goals k_extra "my endT"
end
section
open PyProof.Rows.LCg (NsObj lst)
theorem pick_tail (v : Value) (vs : List Value) : (slicePick (v :: vs).toArray (some 1) none none).toList = vs := by
  have e : sliceBounds (some 1) none none (v :: vs).toArray.size = (((1 : Nat) : Int), ((vs.length + 1 : Nat) : Int), 1) := by
    simp only [sliceBounds, Option.getD_none, List.size_toArray, List.length_cons]
    have h1 : ¬ ((1 : Int) < 0) := by decide
    have h2 : ((1 : Int) > 0) := by decide
    simp only [h1, h2, if_true, if_false]
    refine Prod.ext ?_ (Prod.ext rfl rfl)
    show max 0 (min 1 (((vs.length + 1 : Nat) : Int))) = ((1 : Nat) : Int)
    omega
  rw [kmk_pick_nat _ e]
  simp
section
variable {prog : Program} {w : World} {A : Around} {E : Value → Shared → Prop} {s : Shared} {h₀ : Heap} {L : Addr} {m : Str → Option Value} {news : Led}
theorem lst_tail {value slice : PySem.Expr} {t : Addr} {v0 : Value} {vs : List Value} {n : Nat} {u : Tok} {Q : Value → Shared → Prop}
    (F : Fr h₀ L s.heap m) (N : News h₀ L s.heap news) (hm : (t, W.listOf (v0 :: vs).toArray n) ∈ news) (hl : LenOk (v0 :: vs).length)
    (h : ∀ D h', Fr h₀ L h' m → News h₀ L h' ((D, W.listOf vs.toArray 0) :: news) → (∀ p ∈ news, p.1 < D) → Q (.ref D) { s with heap := h' })
    (hs : subscripted slice false (.ref t) (.ref s.heap.objs.size) = operate [.ref s.heap.objs.size, .ref t] (getItem (.ref t) (.ref s.heap.objs.size)))
    (hg : ∀ r, letTemporaryGo value (.ref t) r = pure ()) :
    wpAny (model prog w) A (subscriptTail value slice (.ref t) (.ref s.heap.objs.size)) Q E { s with heap := s.heap.push { cls := .type "slice", data := .fields #[.int 1 u, .none, .none] } } :=
  kmk_slice_lit F N ⟨_, (N _ hm).1, rfl, _, rfl⟩ (IsPart.int 1 u) IsPart.none (pick_tail v0 vs) h hs hg (by rw [List.size_toArray, sizeLine_eq]; have := hl.le; omega)
theorem size_down (n : Nat) : Builtin.Range.rangeSize (n : Int) 0 (-1) = (n : Int) := by
  unfold Builtin.Range.rangeSize
  have h : ¬ ((-1 : Int) > 0) := by decide
  simp only [h, if_false, show (-(-1) : Int) = 1 by decide, Int.ediv_one]
  split <;> omega
theorem small_dn {n : Nat} (h : LenOk n) : Builtin.Range.small (n : Int) 0 (-1) = true := by
  have h' : ∀ k, k < 61 → Builtin.Range.small ((k : Nat) : Int) 0 (-1) = true := by decide +kernel
  exact h' n (by unfold LenOk at h; omega)
theorem list_down {r : Addr} {t u v : Tok} {n : Nat} {Q : Value → Shared → Prop} (hr : IsRange s.heap r (n : Int) 0 (-1) t u v) (hh : A.handled = none) (F : Fr h₀ L s.heap m) (N : News h₀ L s.heap news) (hl : LenOk n)
    (hQ : ∀ D h' tk ys k, Fr h₀ L h' m → News h₀ L h' ((D, W.listOf (List.toArray ys) k) :: news) → AllLt D news → IntsD ys ((List.range n).map fun (j : Nat) => Dat.int ((n : Int) + (j : Int) * (-1))) → Q (.ref D) { s with heap := h', toks := tk }) :
    wpAny (model prog w) A (call (.type "list") [.ref r]) Q E s := list_rangeL hr hh F N (small_dn hl) (size_down n) (by have := hl.le; omega) hQ
end
section
variable {prog : Program} {w : World} {A : Around} {E : Value → Shared → Prop} {s : Shared} {env : Env} {h₀ : Heap} {body : List Stmt} {Q : Flow → Shared → Prop} {L : Addr}
/-- neighbours in a list -/
def Adj {α : Type} (P : α → α → Prop) : List α → Prop
  | a :: b :: r => P a b ∧ Adj P (b :: r)
  | _ => True
/-- a for over zip(rows, rows[1:]) -/
theorem PRest.adj {x y : Str} {n₁ news : LedT} {P : List Pt → List Pt → Prop} (I : (Str → Option Value) → Prop)
    (turn : ∀ va vb a b m, DatIn n₁ va (cvd a) → DatIn n₁ vb (cvd b) → P a b → I m → ∀ own h tk, Fr h₀ env.locals h (bindB [(y, vb), (x, va)] m) → News h₀ env.locals h (own ++ news) →
      wpAny (model prog w) A (execs body env) (TPost h₀ env.locals { s with heap := h, toks := tk } own news I Q) E { s with heap := h, toks := tk })
    (last : ∀ m h tk, I m → Fr h₀ env.locals h m → News h₀ env.locals h news → Q .next { s with heap := h, toks := tk }) :
    ∀ (r : List (List Pt)) (c : List Pt) (v0 : Value) (vr : List Value) (m : Str → Option Value), DatIn n₁ v0 (cvd c) → DatAll n₁ vr (r.map cvd) → Adj P (c :: r) → I m → PRest prog w A E h₀ env body Q s news (pair2 x y (v0 :: vr) vr) m
  | [], _, _, vr, m, _, h, _, hI => by
    cases dall_nil h
    exact fun h tk F N => last m h tk hI F N
  | b :: r, c, v0, vr, m, h0, h, ha, hI => by
    obtain ⟨v1, vr', rfl, h1, h2⟩ := dall_cons h
    intro t own h tk F N
    refine wpAny_mono (turn v0 v1 c b m h0 h1 ha.1 hI own h tk F N) (fun f s₂ k => ?_) fun _ _ e => e
    exact TPost.weak (fun m' hm => PRest.adj I turn last r b v1 vr' m' h1 h2 ha.2 hm) k
/-- a for over range(n) -/
theorem PRest.upto {x : Str} {n : Nat} {news : LedT} (I : Nat → (Str → Option Value) → Prop)
    (turn : ∀ i m, i < n → I i m → ∀ t own h tk, Fr h₀ env.locals h (bindB [(x, .int (0 + (i : Int)) t)] m) → News h₀ env.locals h (own ++ news) →
      wpAny (model prog w) A (execs body env) (TPost h₀ env.locals { s with heap := h, toks := tk } own news (I (i + 1)) Q) E { s with heap := h, toks := tk })
    (last : ∀ m h tk, I n m → Fr h₀ env.locals h m → News h₀ env.locals h news → Q .next { s with heap := h, toks := tk }) {m : Str → Option Value} (hI : I 0 m) :
    PRest prog w A E h₀ env body Q s news ((List.range n).map fun (i : Nat) t => [(x, .int (0 + (i : Int)) t)]) m := by
  refine PRest.each (α := Nat) (fun r m => ∃ i, r = (List.range n).drop i ∧ i ≤ n ∧ I i m) (fun (i : Nat) t => [(x, .int (0 + (i : Int)) t)]) (fun _ => True) ?_ ?_ (List.range n) m (fun _ _ => trivial) ⟨0, rfl, Nat.zero_le _, hI⟩
  · rintro a r m _ ⟨i, e, hi, hI⟩ t own h tk F N
    have hlt : i < n := by
      rcases Nat.lt_or_ge i n with h | h
      · exact h
      · rw [List.drop_eq_nil_of_le (by rw [List.length_range]; exact h)] at e
        cases e
    rw [List.drop_eq_getElem_cons (by rw [List.length_range]; exact hlt), List.getElem_range] at e
    cases e
    refine wpAny_mono (turn _ m hlt hI t own h tk F N) (fun f s₂ k => ?_) fun _ _ e => e
    exact TPost.weak (fun m' hm => ⟨_, rfl, hlt, hm⟩) k
  · rintro m h tk ⟨i, e, hi, hI⟩ F N
    have : i = n := by
      have := congrArg List.length e
      rw [List.length_drop, List.length_range, List.length_nil] at this
      omega
    subst this
    exact last m h tk hI F N
end
section
variable {prog : Program} {w : World} {A : Around} {E : Value → Shared → Prop} {s : Shared} {env : Env} {h₀ : Heap} {body : List Stmt} {Q : Flow → Shared → Prop} {L : Addr}
/-- two frames alike off three names -/
def Off3 (k y x : Str) (m m' : Str → Option Value) : Prop := ∀ z, z ≠ k → z ≠ y → z ≠ x → m' z = m z
theorem PRest.adj3 {x y k : Str} {n₁ news : LedT} {P : List Pt → List Pt → Prop} {m : Str → Option Value}
    (turn : ∀ va vb a b o, DatIn n₁ va (cvd a) → DatIn n₁ vb (cvd b) → P a b → ∀ own h tk, Fr h₀ env.locals h (fun z => if z = y then some vb else if z = x then some va else if z = k then o else m z) → News h₀ env.locals h (own ++ news) →
      wpAny (model prog w) A (execs body env) (TPost h₀ env.locals { s with heap := h, toks := tk } own news (Off3 k y x m) Q) E { s with heap := h, toks := tk })
    (last : ∀ o1 o2 o3 h tk, Fr h₀ env.locals h (fun z => if z = k then o1 else if z = y then o2 else if z = x then o3 else m z) → News h₀ env.locals h news → Q .next { s with heap := h, toks := tk })
    {r : List (List Pt)} {c : List Pt} {v0 : Value} {vr : List Value} (h0 : DatIn n₁ v0 (cvd c)) (hr : DatAll n₁ vr (r.map cvd)) (ha : Adj P (c :: r)) : PRest prog w A E h₀ env body Q s news (pair2 x y (v0 :: vr) vr) m := by
  refine PRest.adj (Off3 k y x m) (fun va vb a b m₁ ha hb hp hI own h tk F N => ?_) (fun m₁ h tk hI F N => ?_) r c v0 vr m h0 hr ha fun _ _ _ _ => rfl
  · have e : bindB [(y, vb), (x, va)] m₁ = (fun z => if z = y then some vb else if z = x then some va else if z = k then m₁ k else m z) := by
      funext z
      simp only [bindB]
      by_cases h1 : z = y
      · rw [if_pos h1, if_pos h1]
      · by_cases h2 : z = x
        · rw [if_neg h1, if_pos h2, if_neg h1, if_pos h2]
        · by_cases h3 : z = k
          · rw [if_neg h1, if_neg h2, if_neg h1, if_neg h2, if_pos h3, h3]
          · rw [if_neg h1, if_neg h2, if_neg h1, if_neg h2, if_neg h3, hI z h3 h1 h2]
    rw [e] at F
    exact turn va vb a b (m₁ k) ha hb hp own h tk F N
  · have e : m₁ = (fun z => if z = k then m₁ k else if z = y then m₁ y else if z = x then m₁ x else m z) := by
      funext z
      by_cases h3 : z = k
      · rw [if_pos h3, h3]
      · by_cases h1 : z = y
        · rw [if_neg h3, if_pos h1, h1]
        · by_cases h2 : z = x
          · rw [if_neg h3, if_neg h1, if_pos h2, h2]
          · rw [if_neg h3, if_neg h1, if_neg h2, hI z h3 h1 h2]
    rw [e] at F
    exact last _ _ _ h tk F N
/-- a for over range(n) of whose names the loop's own alone turns -/
theorem PRest.uptoK {x : Str} {n : Nat} {news : LedT} {m : Str → Option Value}
    (turn : ∀ i, i < n → ∀ t own h tk, Fr h₀ env.locals h (fun z => if z = x then some (.int (0 + (i : Int)) t) else m z) → News h₀ env.locals h (own ++ news) →
      wpAny (model prog w) A (execs body env) (TPost h₀ env.locals { s with heap := h, toks := tk } own news (fun m' => m' = (fun z => if z = x then some (.int (0 + (i : Int)) t) else m z)) Q) E { s with heap := h, toks := tk })
    (last : ∀ o h tk, Fr h₀ env.locals h (fun z => if z = x then o else m z) → News h₀ env.locals h news → Q .next { s with heap := h, toks := tk }) :
    PRest prog w A E h₀ env body Q s news ((List.range n).map fun (i : Nat) t => [(x, .int (0 + (i : Int)) t)]) m := by
  have self : m = (fun z => if z = x then m x else m z) := by
    funext z
    by_cases h : z = x
    · simp [h]
    · simp [h]
  refine PRest.upto (fun _ m' => ∃ o, m' = fun z => if z = x then o else m z) (fun i m₁ hi hI t own h tk F N => ?_) (fun m₁ h tk hI F N => ?_) ⟨_, self⟩
  · obtain ⟨o, rfl⟩ := hI
    have e : bindB [(x, .int (0 + (i : Int)) t)] (fun z => if z = x then o else m z) = (fun z => if z = x then some (.int (0 + (i : Int)) t) else m z) := by
      funext z
      by_cases h : z = x
      · simp [bindB, h]
      · simp [bindB, h]
    rw [e] at F
    refine wpAny_mono (turn i hi t own h tk F N) (fun f s₂ k => ?_) fun _ _ e => e
    exact TPost.weak (fun m' hm => ⟨_, hm⟩) k
  · obtain ⟨o, rfl⟩ := hI
    exact last o h tk F N
theorem off3_of {k y x : Str} {m : Str → Option Value} {o a b : Option Value} {o' : Option Value} : Off3 k y x m (fun z => if z = k then o else if z = y then a else if z = x then b else if z = k then o' else m z) := fun z h1 h2 h3 => by simp [h1, h2, h3]
/-- the source: range(n) -/
theorem for_rangeN {x : Str} {px : Pos} {r : Addr} {b₀ : Int} {t₀ u₀ v₀ : Tok} {n : Nat} {m₀ : Str → Option Value} {news : LedT} (hh : A.handled = none) (hr : IsRange s.heap r 0 b₀ 1 t₀ u₀ v₀) (hb : b₀ = (n : Int)) (hl : LenOk n)
    (F : Fr h₀ env.locals s.heap m₀) (N : News h₀ env.locals s.heap news) (hk : env.kindOf x = some .local) (hp : (env.scope.kind == .class || (env.scope.kind == .module && env.locals != env.globals)) = false)
    (rest : PRest prog w A E h₀ env body Q s news ((List.range n).map fun (i : Nat) t => [(x, .int (0 + (i : Int)) t)]) m₀) :
    wpAny (model prog w) A (pyIter (.ref r)) (fun it s₂ => TurnsAt prog w A h₀ env (.Name x px) body Q E it s₂) E s := by
  subst hb
  exact for_range hh hr (small_up hl) (size_up n) F N hk hp rest
end
section
variable {prog : Program} {w : World} {A : Around} {s : Shared} {h₀ : Heap} {L : Addr} {m : Str → Option Value} {env : Env} {elt : PySem.Expr} {scope : Scope} {cl : List (Str × Addr)} {wr : Wr} {news : Led} {Fin : List Value → LedT → Prop}
/-- a comprehension over rows whose turns make an int each and nothing else -/
theorem CRest.ints {x : Str} {n₁ : Led} {R : List (List Pt)} {vs : List Value} (f : List Pt → Int) (hd : DatAll n₁ vs (R.map cvd))
    (turn : ∀ v l, DatIn n₁ v (cvd l) → l ∈ R → ∀ ys own C oC D m₂ h tk (E' : Value → Shared → Prop), NsObj oC m₂ → m₂ x = some v → Fr h₀ L h m → News h₀ L h ((C, oC) :: (D, lst ys) :: (own ++ news)) → COff wr C D news → OwnW wr own →
        wpAny (model prog w) A (eval elt (compEnvC scope cl C env)) (CEnd h₀ L m { s with heap := h, toks := tk } wr own C oC D ys (fun y news' => news' = news ∧ ∃ t, y = .int (f l) t)) E' { s with heap := h, toks := tk })
    (last : ∀ ys, DatAll news ys (R.map fun l => Dat.int (f l)) → Fin ys news) :
    CRest prog w A h₀ L m env [] elt scope cl s wr Fin (vs.map fun v _ => [(x, v)]) [] news := by
  have key : ∀ (R' : List (List Pt)) (vs' : List Value) (ys : List Value) (done : List (List Pt)), DatAll n₁ vs' (R'.map cvd) → (∀ l ∈ R', l ∈ R) → R = done ++ R' → DatAll news ys (done.map fun l => Dat.int (f l)) → CRest prog w A h₀ L m env [] elt scope cl s wr Fin (vs'.map fun v _ => [(x, v)]) ys news := by
    intro R'
    induction R' with
    | nil =>
      intro vs' ys done h _ e hy
      cases dall_nil h
      rw [List.append_nil] at e
      exact CRest.zero (last ys (e ▸ hy))
    | cons l R' ih =>
      intro vs' ys done h hs e hy
      obtain ⟨v, vr, rfl, h1, h2⟩ := dall_cons h
      refine CRest.plain fun t own C oC D m₂ h tk E' k1 k2 k3 k4 k5 k6 => ?_
      refine wpAny_mono (turn v l h1 (hs l (.head _)) ys own C oC D m₂ h tk E' k1 k2.1 k3 k4 k5 k6) (fun y s₂ hr => ?_) fun _ _ e => e
      obtain ⟨h₅, tk₅, news₅, e5, F₅, N₅, off₅, rfl, t', rfl⟩ := hr
      refine ⟨h₅, tk₅, _, e5, F₅, N₅, off₅, ih vr _ (done ++ [l]) h2 (fun l' hl => hs l' (.tail _ hl)) (by rw [e]; simp) ?_⟩
      rw [List.map_append]
      exact DatAll.append hy (DatAll.one (.int _ _))
  exact key R vs [] [] hd (fun _ h => h) rfl .nil
end
section
variable {prog : Program} {w : World} {A : Around} {E : Value → Shared → Prop} {s : Shared} {env : Env} {h₀ : Heap} {body : List Stmt} {Q : Flow → Shared → Prop} {L : Addr}
/-- a frame over which names stand anew -/
def ov : List Str → (Str → Option Value) → (Str → Option Value) → (Str → Option Value)
  | [], _, m => m
  | x :: r, f, m => fun z => if z = x then f x else ov r f m z
def OffN (ns : List Str) (m m' : Str → Option Value) : Prop := ∀ z, z ∉ ns → m' z = m z
theorem ov_self : ∀ (ns : List Str) {m m' : Str → Option Value}, OffN ns m m' → m' = ov ns m' m
  | [], m, m', h => funext fun z => h z (by simp)
  | x :: r, m, m', h => by
    funext z
    show m' z = if z = x then m' x else ov r m' m z
    by_cases k : z = x
    · rw [if_pos k, k]
    · rw [if_neg k]
      have e := ov_self r (m := fun z => if z = x then m' x else m z) (m' := m') (fun z hz => by
        show m' z = if z = x then m' x else m z
        by_cases k : z = x
        · rw [if_pos k, k]
        · rw [if_neg k]; exact h z (by simp [k, hz]))
      have e2 : ∀ (r : List Str) (z : Str), z ≠ x → ov r m' (fun z => if z = x then m' x else m z) z = ov r m' m z := by
        intro r
        induction r with
        | nil => intro z hz; exact if_neg hz
        | cons y r ih =>
          intro z hz
          show (if z = y then m' y else _) = (if z = y then m' y else _)
          by_cases q : z = y
          · rw [if_pos q, if_pos q]
          · rw [if_neg q, if_neg q]; exact ih z hz
      rw [← e2 r z k]
      exact congrFun e z
/-- a for over range(n): what the turns keep is said of the frame by I, off the names ns it stays -/
theorem PRest.uptoN {x : Str} {n : Nat} {news : LedT} {m : Str → Option Value} (ns : List Str) (I : Nat → (Str → Option Value) → Prop) (hI : I 0 m)
    (turn : ∀ i f, i < n → I i f → ∀ t own h tk, Fr h₀ env.locals h (fun z => if z = x then some (.int (0 + (i : Int)) t) else ov (x :: ns) f m z) → News h₀ env.locals h (own ++ news) →
      wpAny (model prog w) A (execs body env) (TPost h₀ env.locals { s with heap := h, toks := tk } own news (fun m' => OffN (x :: ns) m m' ∧ I (i + 1) m') Q) E { s with heap := h, toks := tk })
    (last : ∀ f h tk, I n f → Fr h₀ env.locals h (ov (x :: ns) f m) → News h₀ env.locals h news → Q .next { s with heap := h, toks := tk }) :
    PRest prog w A E h₀ env body Q s news ((List.range n).map fun (i : Nat) t => [(x, .int (0 + (i : Int)) t)]) m := by
  refine PRest.upto (fun i m' => OffN (x :: ns) m m' ∧ I i m') (fun i m₁ hi hI t own h tk F N => ?_) (fun m₁ h tk hI F N => ?_) ⟨fun _ _ => rfl, hI⟩
  · have e := ov_self (x :: ns) hI.1
    have F' : Fr h₀ env.locals h (fun z => if z = x then some (.int (0 + (i : Int)) t) else ov (x :: ns) m₁ m z) := by
      have e3 : bindB [(x, .int (0 + (i : Int)) t)] m₁ = (fun z => if z = x then some (.int (0 + (i : Int)) t) else ov (x :: ns) m₁ m z) := by
        rw [← e]; rfl
      rw [← e3]
      exact F
    exact turn i m₁ hi hI.2 t own h tk F' N
  · have e := ov_self (x :: ns) hI.1
    rw [e] at F
    exact last m₁ h tk hI.2 F N
end
/-! ## the coefficients -/
def coef : Nat → Nat → Int
  | 3, 1 => 2
  | 4, 1 => 3
  | 4, 2 => 3
  | _, _ => 1
def CoefV (cv : List Value) (n : Nat) : Prop := cv.length = n ∧ ∀ j < n, ∃ t, cv[j]? = some (.int (coef n j) t)
theorem coef2 {a b : Tok} : CoefV [.int 1 a, .int 1 b] 2 := ⟨rfl, fun j hj => by
  have : j = 0 ∨ j = 1 := by omega
  rcases this with rfl | rfl <;> exact ⟨_, rfl⟩⟩
theorem coef3 {a b c : Tok} : CoefV [.int 1 a, .int 2 b, .int 1 c] 3 := ⟨rfl, fun j hj => by
  have : j = 0 ∨ j = 1 ∨ j = 2 := by omega
  rcases this with rfl | rfl | rfl <;> exact ⟨_, rfl⟩⟩
theorem coef4 {a b c d : Tok} : CoefV [.int 1 a, .int 3 b, .int 3 c, .int 1 d] 4 := ⟨rfl, fun j hj => by
  have : j = 0 ∨ j = 1 ∨ j = 2 ∨ j = 3 := by omega
  rcases this with rfl | rfl | rfl | rfl <;> exact ⟨_, rfl⟩⟩
theorem pick_counts {l1 l2 l3 : Addr} {c1 c2 c3 : List Value} {k1 k2 k3 : Nat} {led : Led} {n : Nat} (h : 2 ≤ n ∧ n ≤ 4) (m1 : (l1, W.listOf c1.toArray k1) ∈ led) (m2 : (l2, W.listOf c2.toArray k2) ∈ led) (m3 : (l3, W.listOf c3.toArray k3) ∈ led)
    (i1 : CoefV c1 2) (i2 : CoefV c2 3) (i3 : CoefV c3 4) : ∃ wA cw k, At [.ref l1, .ref l2, .ref l3] ((n : Int) - 1 - 1) (.ref wA) ∧ (wA, W.listOf (List.toArray cw) k) ∈ led ∧ CoefV cw n := by
  have : n = 2 ∨ n = 3 ∨ n = 4 := by omega
  rcases this with rfl | rfl | rfl
  · exact ⟨l1, c1, k1, ⟨0, by decide, rfl⟩, m1, i1⟩
  · exact ⟨l2, c2, k2, ⟨1, by decide, rfl⟩, m2, i2⟩
  · exact ⟨l3, c3, k3, ⟨2, by decide, rfl⟩, m3, i3⟩
theorem counts_of {h₀ hp : Heap} {L : Addr} {l1 l2 l3 : Addr} {c1 c2 c3 : List Value} {k1 k2 k3 : Nat} {led : Led} {n : Nat} (_ : News h₀ L hp led) (h : 2 ≤ n ∧ n ≤ 4) (i1 : CoefV c1 2) (i2 : CoefV c2 3) (i3 : CoefV c3 4) (m1 : (l1, W.listOf c1.toArray k1) ∈ led) (m2 : (l2, W.listOf c2.toArray k2) ∈ led) (m3 : (l3, W.listOf c3.toArray k3) ∈ led) :
    ∃ wA cw k, At [.ref l1, .ref l2, .ref l3] ((n : Int) - 1 - 1) (.ref wA) ∧ (wA, W.listOf (List.toArray cw) k) ∈ led ∧ CoefV cw n := pick_counts h m1 m2 m3 i1 i2 i3
/-! ## the sums by powers -/
def PowE (n : Int) (k : Nat) : Prop := n = (k : Int) ∧ k ≤ 8
theorem Bits.pow {n : Nat} {x : Int} (h : Bits n x) (k : Nat) : Bits (n * k + 1) (x ^ k) := by
  refine Bits.of ?_
  rw [Int.natAbs_pow, Nat.pow_succ, Nat.pow_mul]
  have : x.natAbs ^ k ≤ (2 ^ n) ^ k := Nat.pow_le_pow_left (Nat.le_of_lt h.lt) k
  have hp : 0 < (2 ^ n) ^ k := Nat.pow_pos (Nat.pow_pos (by decide))
  omega
theorem powN {prog : Program} {w : World} {A : Around} {E : Value → Shared → Prop} {s : Shared} {a n : Int} {t u : Tok} {Q : Value → Shared → Prop} {k : Nat} (hk : PowE n k) (hb : Bits 5 a) (h : Q (.int (a ^ k) s.toks) { s with toks := s.toks + 1 }) : wpAny (model prog w) A (binaryOp .Pow (.int a t) (.int n u)) Q E s :=
  pow_bits hb hk.1 (by have := hk.2; omega) h
/-- the law's own sum over the points of one axis: top and bottom behind j turns -/
def TB (n : Nat) (s d : Int) (xs : List Rat) : Nat → Int × Int
  | 0 => (0, 1)
  | j + 1 => match xs[j]? with
    | some q => ((TB n s d xs j).1 * (q.den : Int) + coef n j * s ^ j * (d - s) ^ (n - 1 - j) * q.num * (TB n s d xs j).2, (TB n s d xs j).2 * (q.den : Int))
    | none => TB n s d xs j
theorem coef_bits (n j : Nat) : Bits 3 (coef n j) := by
  unfold coef
  split <;> exact Bits.lit (by decide)
theorem TB_bits {n : Nat} {s d : Int} {xs : List Rat} (hs : Bits 2 s) (hd : Bits 5 (d - s)) (hx : ∀ q ∈ xs, Bd 3 q) (hn : n ≤ 4) : ∀ j, j ≤ 4 → Bits (100 * j + 10) (TB n s d xs j).1 ∧ Bits (3 * j + 2) (TB n s d xs j).2
  | 0, _ => ⟨(Bits.lit (x := 0) (by decide)).mono (by omega), (Bits.of (by decide : (1 : Int).natAbs < 2 ^ 2))⟩
  | j + 1, hj => by
    obtain ⟨h1, h2⟩ := TB_bits (n := n) (xs := xs) hs hd hx hn j (by omega)
    unfold TB
    cases e : xs[j]? with
    | none => exact ⟨h1.mono (by omega), h2.mono (by omega)⟩
    | some q =>
      obtain ⟨q1, q2⟩ := hx q (List.mem_of_getElem? e)
      have p1 := hs.pow j
      have p2 := hd.pow (n - 1 - j)
      exact ⟨(Bits.add (Bits.mul h1 q2) (Bits.mul (Bits.mul (Bits.mul (Bits.mul (coef_bits n j) p1) p2) q1) h2)).mono (by omega), (Bits.mul h2 q2).mono (by omega)⟩
theorem TB_step {n : Nat} {s d : Int} {xs : List Rat} {j : Nat} {q : Rat} (h : xs[j]? = some q) : TB n s d xs (j + 1) = ((TB n s d xs j).1 * (q.den : Int) + coef n j * s ^ j * (d - s) ^ (n - 1 - j) * q.num * (TB n s d xs j).2, (TB n s d xs j).2 * (q.den : Int)) := by
  rw [TB, h]
end
section
theorem is_rat {q : Rat} {top bottom : Int} (h : q * (bottom : Rat) = (top : Rat)) : q.num * bottom = top * (q.den : Int) := by
  have e : ((q.num * bottom : Int) : Rat) = ((top * (q.den : Int) : Int) : Rat) := by
    rw [Rat.intCast_mul, Rat.intCast_mul, num_den, ← h]
    grind
  exact Rat.intCast_inj.mp e
theorem cst0 : ((0 : Int) : Rat) = 0 := rfl
theorem cst1 : ((1 : Int) : Rat) = 1 := rfl
theorem cst2 : ((2 : Int) : Rat) = 2 := rfl
theorem cst3 : ((3 : Int) : Rat) = 3 := rfl
def ax (i : Nat) (p : Pt) : Rat := if i = 0 then p.1 else p.2
theorem ax_mx (i : Nat) (t : Rat) (p q : Pt) : ax i (mx t p q) = mx1 t (ax i p) (ax i q) := by
  unfold ax
  split <;> rfl
theorem bern2 (t a b : Rat) : (mx1 t a b).num * ((TB 2 t.num (t.den : Int) [a, b] 2).2 * (t.den : Int) ^ 1) = (TB 2 t.num (t.den : Int) [a, b] 2).1 * ((mx1 t a b).den : Int) := by
  refine is_rat ?_
  simp only [TB, coef, List.getElem?_cons_zero, List.getElem?_cons_succ, Nat.reduceAdd, Nat.reduceSub, Int.pow_succ, Int.pow_zero, Rat.intCast_mul, Rat.intCast_add, Rat.intCast_sub, num_den, cst0, cst1, cst2, cst3, mx1]
  grind
theorem bern3 (t a b c : Rat) : (mx1 t (mx1 t a b) (mx1 t b c)).num * ((TB 3 t.num (t.den : Int) [a, b, c] 3).2 * (t.den : Int) ^ 2) = (TB 3 t.num (t.den : Int) [a, b, c] 3).1 * ((mx1 t (mx1 t a b) (mx1 t b c)).den : Int) := by
  refine is_rat ?_
  simp only [TB, coef, List.getElem?_cons_zero, List.getElem?_cons_succ, Nat.reduceAdd, Nat.reduceSub, Int.pow_succ, Int.pow_zero, Rat.intCast_mul, Rat.intCast_add, Rat.intCast_sub, num_den, cst0, cst1, cst2, cst3, mx1]
  grind
theorem bern4 (t a b c d : Rat) : (mx1 t (mx1 t (mx1 t a b) (mx1 t b c)) (mx1 t (mx1 t b c) (mx1 t c d))).num * ((TB 4 t.num (t.den : Int) [a, b, c, d] 4).2 * (t.den : Int) ^ 3) = (TB 4 t.num (t.den : Int) [a, b, c, d] 4).1 * ((mx1 t (mx1 t (mx1 t a b) (mx1 t b c)) (mx1 t (mx1 t b c) (mx1 t c d))).den : Int) := by
  refine is_rat ?_
  simp only [TB, coef, List.getElem?_cons_zero, List.getElem?_cons_succ, Nat.reduceAdd, Nat.reduceSub, Int.pow_succ, Int.pow_zero, Rat.intCast_mul, Rat.intCast_add, Rat.intCast_sub, num_den, cst0, cst1, cst2, cst3, mx1]
  grind
theorem last_one {α : Type} {l r : List α} {a b : α} (h : l ++ [a] = r ++ [b]) : a = b := by
  have := (List.append_inj' h rfl).2
  simpa using this
theorem bern {t : Rat} {c : List Pt} {R2 : List (List Pt)} {pt : Pt} (i : Nat) (hc : 2 ≤ c.length ∧ c.length ≤ 4) (e : rowsN t (c.length - 1) c = R2 ++ [[pt]]) :
    (ax i pt).num * ((TB c.length t.num (t.den : Int) (c.map (ax i)) c.length).2 * (t.den : Int) ^ (c.length - 1)) = (TB c.length t.num (t.den : Int) (c.map (ax i)) c.length).1 * ((ax i pt).den : Int) := by
  match c, hc, e with
  | [p0, p1], _, e =>
    have h := last_one (l := [[p0, p1]]) (a := [mx t p0 p1]) e
    cases h
    rw [ax_mx]
    exact bern2 t (ax i p0) (ax i p1)
  | [p0, p1, p2], _, e =>
    have h := last_one (l := [[p0, p1, p2], [mx t p0 p1, mx t p1 p2]]) (a := [mx t (mx t p0 p1) (mx t p1 p2)]) e
    cases h
    rw [ax_mx, ax_mx, ax_mx]
    exact bern3 t (ax i p0) (ax i p1) (ax i p2)
  | [p0, p1, p2, p3], _, e =>
    have h := last_one (l := [[p0, p1, p2, p3], [mx t p0 p1, mx t p1 p2, mx t p2 p3], [mx t (mx t p0 p1) (mx t p1 p2), mx t (mx t p1 p2) (mx t p2 p3)]]) (a := [mx t (mx t (mx t p0 p1) (mx t p1 p2)) (mx t (mx t p1 p2) (mx t p2 p3))]) e
    cases h
    simp only [ax_mx]
    exact bern4 t (ax i p0) (ax i p1) (ax i p2) (ax i p3)
  | [], h, _ => exact absurd h.1 (by decide)
  | [_], h, _ => exact absurd h.1 (by simp)
  | _ :: _ :: _ :: _ :: _ :: r, h, _ => exact absurd h.2 (by simp)
end
section
open PyProof.Rows.LCg (NsObj lst)
/-! ## a comprehension that picks points -/
structure MkA (p : Pt) : Prop where
structure MkB (p : Pt) : Prop where
def PYes (b : Pt → Bool) (v : Value) (q : Pt) (news : Led) : Value → Led → Prop := fun y n' => y = v ∧ b q = true ∧ n' = news
def PNo (b : Pt → Bool) (q : Pt) (news : Led) : Value → Led → Prop := fun _ n' => b q = false ∧ n' = news
inductive PItems (news : Led) (x : Str) : List (Tok → List (Str × Value)) → List (Value × Pt) → Prop
  | nil : PItems news x [] []
  | cons {v : Value} {p : Pt} {r : List (Tok → List (Str × Value))} {l : List (Value × Pt)} : DatIn news v (pd p) → Bp 900 p → PItems news x r l → PItems news x ((fun _ => [(x, v)]) :: r) ((v, p) :: l)
theorem PItems.all {news : Led} {x : Str} {items : List (Tok → List (Str × Value))} {l : List (Value × Pt)} (h : PItems news x items l) : ∀ e ∈ l, DatIn news e.1 (pd e.2) ∧ Bp 900 e.2 := by
  induction h with
  | nil => intro e he; cases he
  | cons h1 h2 _ ih =>
    intro e he
    rcases List.mem_cons.mp he with rfl | he
    · exact ⟨h1, h2⟩
    · exact ih e he
theorem pts_all {news : Led} : ∀ {l : List (Value × Pt)}, (∀ e ∈ l, DatIn news e.1 (pd e.2)) → DatAll news (l.map (·.1)) ((l.map (·.2)).map pd)
  | [], _ => .nil
  | _ :: _, h => .cons (h _ (.head _)) (pts_all fun e he => h e (.tail _ he))
theorem pitems_of {n : Led} {x : Str} : ∀ {vs : List Value} {l : List Pt}, DatAll n vs (l.map pd) → (∀ p ∈ l, Bp 900 p) → ∃ el : List (Value × Pt), el.map (·.2) = l ∧ PItems n x (vs.map fun v _ => [(x, v)]) el
  | [], [], _, _ => ⟨[], rfl, .nil⟩
  | v :: vs, p :: l, h, hb => by
    cases h with
    | cons h1 h2 =>
      obtain ⟨el, e2, k⟩ := pitems_of (x := x) h2 fun p hp => hb p (.tail _ hp)
      exact ⟨(v, p) :: el, by simp [e2], .cons h1 (hb p (.head _)) k⟩
  | [], _ :: _, h, _ => by cases h
  | _ :: _, [], h, _ => by cases h
def PTurn (prog : Program) (w : World) (A : Around) (h₀ : Heap) (L : Addr) (m : Str → Option Value) (env : Env) (ct elt : PySem.Expr) (scope : Scope) (cl : List (Str × Addr)) (s : Shared) (wr : Wr) (n₁ : Led) (x : Str) (news : Led) (b : Pt → Bool) : Prop :=
  ∀ v q, DatIn n₁ v (pd q) → ∀ ys own C oC D m₂ h tk (E' : Value → Shared → Prop), NsObj oC m₂ → Has m₂ [(x, v)] → Fr h₀ L h m → News h₀ L h ((C, oC) :: (D, lst ys) :: (own ++ news)) → COff wr C D news → OwnW wr own →
    wpAny (model prog w) A (isTrue ct (compEnvC scope cl C env) (eval ct (compEnvC scope cl C env))) (fun ok s' => if ok = true then
      wpAny (model prog w) A (eval elt (compEnvC scope cl C env)) (CEnd h₀ L m { s with heap := h, toks := tk } wr own C oC D ys (PYes b v q news)) E' s'
      else CEnd h₀ L m { s with heap := h, toks := tk } wr own C oC D ys (PNo b q news) Value.none s') E' { s with heap := h, toks := tk }
section
variable {prog : Program} {w : World} {A : Around} {s : Shared} {h₀ : Heap} {L : Addr} {m : Str → Option Value} {env : Env} {ct elt : PySem.Expr} {scope : Scope} {cl : List (Str × Addr)} {wr : Wr} {Fin : List Value → LedT → Prop} {n₁ news : Led} {x : Str} {b : Pt → Bool}
theorem CRest.pick (turn : PTurn prog w A h₀ L m env ct elt scope cl s wr n₁ x news b) {items : List (Tok → List (Str × Value))} {l : List (Value × Pt)} (hp : PItems n₁ x items l) : ∀ {ys : List Value}, Fin (ys ++ (l.filter fun e => b e.2).map (·.1)) news →
    CRest prog w A h₀ L m env [ct] elt scope cl s wr Fin items ys news := by
  induction hp with
  | nil =>
    intro ys h
    exact CRest.zero (by simpa using h)
  | @cons v p r l h1 h2 _ ih =>
    intro ys h
    refine CRest.test fun t own C oC D m₂ h' tk E' k1 k2 k3 k4 k5 k6 => ?_
    have T := turn v p h1 ys own C oC D m₂ h' tk E' k1 k2 k3 k4 k5 k6
    refine wpAny_mono T (fun ok s' hq => ?_) fun _ _ e => e
    cases ok with
    | true =>
      simp only [if_true] at hq ⊢
      refine wpAny_mono hq (fun y s₂ hr => ?_) fun _ _ e => e
      obtain ⟨h₅, tk₅, news₅, rfl, F₅, N₅, off₅, rfl, hb, rfl⟩ := hr
      refine ⟨h₅, tk₅, _, rfl, F₅, N₅, off₅, ih ?_⟩
      rw [List.filter_cons_of_pos (by exact hb), List.map_cons] at h
      simpa using h
    | false =>
      simp only [Bool.false_eq_true, if_false] at hq ⊢
      obtain ⟨h₅, tk₅, news₅, rfl, F₅, N₅, off₅, hb, rfl⟩ := hq
      refine ⟨h₅, tk₅, _, rfl, F₅, N₅, off₅, ih ?_⟩
      rw [List.filter_cons_of_neg (by rw [hb]; decide)] at h
      exact h
theorem first_pick {p0 : Pt} : ∀ {l : List (Value × Pt)}, (∃ q ∈ l.map (·.2), q ≠ p0) → ∃ e r, (l.filter fun e => decide (e.2 ≠ p0)) = e :: r ∧ dirF p0 (l.map (·.2)) = psub e.2 p0 ∧ dirE p0 (l.map (·.2)) = pneg (psub e.2 p0)
  | [], h => by obtain ⟨q, hq, _⟩ := h; cases hq
  | a :: l, h => by
    by_cases ha : a.2 ≠ p0
    · refine ⟨a, _, List.filter_cons_of_pos (by simpa using ha), ?_, ?_⟩
      · simp only [List.map_cons, dirF, if_pos ha]
      · simp only [List.map_cons, dirE, if_pos ha]
    · have h' : ∃ q ∈ l.map (·.2), q ≠ p0 := by
        obtain ⟨q, hq, hn⟩ := h
        rw [List.map_cons] at hq
        rcases List.mem_cons.mp hq with rfl | hq
        · exact absurd hn ha
        · exact ⟨q, hq, hn⟩
      obtain ⟨e, r, h1, h2, h3⟩ := first_pick h'
      refine ⟨e, r, ?_, ?_, ?_⟩
      · rw [List.filter_cons_of_neg (by simpa using ha)]; exact h1
      · simp only [List.map_cons, dirF, if_neg ha]; exact h2
      · simp only [List.map_cons, dirE, if_neg ha]; exact h3
theorem CRest.pickF {p0 : Pt} {ps : List Pt} {items : List (Tok → List (Str × Value))} {l : List (Value × Pt)} (_ : MkA p0) (hp : PItems n₁ x items l) (hc : l.map (·.2) = p0 :: ps) (hne : ∃ q ∈ ps, q ≠ p0)
    (turn : PTurn prog w A h₀ L m env ct elt scope cl s wr n₁ x news fun q => decide (q ≠ p0))
    (fin : ∀ (e : Value × Pt) (r : List (Value × Pt)), DatIn n₁ e.1 (pd e.2) → Bp 900 e.2 → DatAll n₁ (e.1 :: r.map (·.1)) (pd e.2 :: (r.map (·.2)).map pd) → dirF p0 ps = psub e.2 p0 → Fin (e.1 :: r.map (·.1)) news) :
    CRest prog w A h₀ L m env [ct] elt scope cl s wr Fin items [] news := by
  obtain ⟨q, hq, hn⟩ := hne
  obtain ⟨e, r, h1, h2, _⟩ := first_pick (p0 := p0) (l := l) ⟨q, by rw [hc]; exact .tail _ hq, hn⟩
  have hs : ∀ d ∈ e :: r, d ∈ l := fun d hd => (List.mem_filter.mp (h1 ▸ hd)).1
  refine CRest.pick turn hp ?_
  rw [h1]
  refine fin e r (hp.all e (hs e (.head _))).1 (hp.all e (hs e (.head _))).2 (pts_all (l := e :: r) fun d hd => (hp.all d (hs d hd)).1) ?_
  rw [hc] at h2
  simpa [dirF] using h2
theorem CRest.pickL {p0 : Pt} {ps : List Pt} {items : List (Tok → List (Str × Value))} {l : List (Value × Pt)} (_ : MkB p0) (hp : PItems n₁ x items l) (hc : (l.map (·.2)).reverse = p0 :: ps) (hne : ∃ q ∈ ps, q ≠ p0)
    (turn : PTurn prog w A h₀ L m env ct elt scope cl s wr n₁ x news fun q => decide (q ≠ p0))
    (fin : ∀ (e : Value × Pt) (r : List (Value × Pt)), DatIn n₁ e.1 (pd e.2) → Bp 900 e.2 → dirE p0 ps = pneg (psub e.2 p0) → Fin (r.map (·.1) ++ [e.1]) news) :
    CRest prog w A h₀ L m env [ct] elt scope cl s wr Fin items [] news := by
  obtain ⟨q, hq, hn⟩ := hne
  have hc' : l.reverse.map (·.2) = p0 :: ps := by rw [List.map_reverse]; exact hc
  obtain ⟨e, r, h1, _, h2⟩ := first_pick (p0 := p0) (l := l.reverse) ⟨q, by rw [hc']; exact .tail _ hq, hn⟩
  have h3 : (l.filter fun e => decide (e.2 ≠ p0)) = r.reverse ++ [e] := by
    have := congrArg List.reverse h1
    rw [List.filter_reverse, List.reverse_reverse, List.reverse_cons] at this
    exact this
  have he : e ∈ l := (List.mem_filter (p := fun e => decide (e.2 ≠ p0)).mp (by rw [h3]; simp)).1
  refine CRest.pick turn hp ?_
  rw [h3, List.map_append]
  refine fin e r.reverse (hp.all e he).1 (hp.all e he).2 ?_
  rw [hc'] at h2
  simpa [dirE] using h2
theorem CRest.pickFD {p0 : Pt} {ps l : List Pt} {vs : List Value} (hm : MkA p0) (hd : DatAll n₁ vs (l.map pd)) (hb : ∀ p ∈ l, Bp 900 p) (hc : l = p0 :: ps) (hne : ∃ q ∈ ps, q ≠ p0)
    (turn : PTurn prog w A h₀ L m env ct elt scope cl s wr n₁ x news fun q => decide (q ≠ p0))
    (fin : ∀ (e : Value × Pt) (r : List (Value × Pt)), DatIn n₁ e.1 (pd e.2) → Bp 900 e.2 → DatAll n₁ (e.1 :: r.map (·.1)) (pd e.2 :: (r.map (·.2)).map pd) → dirF p0 ps = psub e.2 p0 → Fin (e.1 :: r.map (·.1)) news) :
    CRest prog w A h₀ L m env [ct] elt scope cl s wr Fin (vs.map fun v _ => [(x, v)]) [] news := by
  obtain ⟨el, e2, k⟩ := pitems_of (x := x) hd hb
  exact CRest.pickF hm k (e2.trans hc) hne turn fin
theorem CRest.pickLD {p0 : Pt} {ps l : List Pt} {vs : List Value} (hm : MkB p0) (hd : DatAll n₁ vs (l.map pd)) (hb : ∀ p ∈ l, Bp 900 p) (hc : l.reverse = p0 :: ps) (hne : ∃ q ∈ ps, q ≠ p0)
    (turn : PTurn prog w A h₀ L m env ct elt scope cl s wr n₁ x news fun q => decide (q ≠ p0))
    (fin : ∀ (e : Value × Pt) (r : List (Value × Pt)), DatIn n₁ e.1 (pd e.2) → Bp 900 e.2 → dirE p0 ps = pneg (psub e.2 p0) → Fin (r.map (·.1) ++ [e.1]) news) :
    CRest prog w A h₀ L m env [ct] elt scope cl s wr Fin (vs.map fun v _ => [(x, v)]) [] news := by
  obtain ⟨el, e2, k⟩ := pitems_of (x := x) hd hb
  exact CRest.pickL hm k (by rw [e2]; exact hc) hne turn fin
/-- all alike: nothing is picked -/
theorem CRest.pickN {p0 : Pt} {l : List Pt} {vs : List Value} (hd : DatAll n₁ vs (l.map pd)) (hb : ∀ p ∈ l, Bp 900 p) (hs : ∀ q ∈ l, q = p0)
    (turn : PTurn prog w A h₀ L m env ct elt scope cl s wr n₁ x news fun q => decide (q ≠ p0)) (fin : Fin [] news) :
    CRest prog w A h₀ L m env [ct] elt scope cl s wr Fin (vs.map fun v _ => [(x, v)]) [] news := by
  obtain ⟨el, e2, k⟩ := pitems_of (x := x) hd hb
  refine CRest.pick turn k ?_
  have e : (el.filter fun e => decide (e.2 ≠ p0)) = [] := by
    rw [List.filter_eq_nil_iff]
    intro e he
    have := hs e.2 (by rw [← e2]; exact List.mem_map_of_mem he)
    simp [this]
  rw [e]
  exact fin
theorem cend_yes {s₁ : Shared} {own all : Led} {C D : Addr} {oC : Obj} {ys : List Value} {h' : Heap} {tk : Nat} {v : Value} {q : Pt} (F : Fr h₀ L h' m) (N : News h₀ L h' all) (hs : ∀ p ∈ (C, oC) :: (D, lst ys) :: (own ++ news), p ∈ all) (off : COff wr C D news) (hb : b q = true) :
    CEnd h₀ L m s₁ wr own C oC D ys (PYes b v q news) v { s₁ with heap := h', toks := tk } := CEnd.intro F N hs off ⟨rfl, hb, rfl⟩
theorem cend_no {s₁ : Shared} {own all : Led} {C D : Addr} {oC : Obj} {ys : List Value} {h' : Heap} {tk : Nat} {y : Value} {q : Pt} (F : Fr h₀ L h' m) (N : News h₀ L h' all) (hs : ∀ p ∈ (C, oC) :: (D, lst ys) :: (own ++ news), p ∈ all) (off : COff wr C D news) (hb : b q = false) :
    CEnd h₀ L m s₁ wr own C oC D ys (PNo b q news) y { s₁ with heap := h', toks := tk } := CEnd.intro F N hs off ⟨hb, rfl⟩
end
/-! ## what the law asks of the directions -/
theorem pneg_psub (p q : Pt) : pneg (psub p q) = psub q p := by
  unfold pneg psub
  exact Prod.ext (by show (0 : Rat) - (p.1 - q.1) = q.1 - p.1; grind) (by show (0 : Rat) - (p.2 - q.2) = q.2 - p.2; grind)
theorem dirE_dirF (p0 : Pt) : ∀ l, dirE p0 l = pneg (dirF p0 l)
  | [] => Prod.ext (by show (0 : Rat) = 0 - 0; grind) (by show (0 : Rat) = 0 - 0; grind)
  | q :: r => by
    unfold dirE dirF
    by_cases h : q ≠ p0
    · rw [if_pos h, if_pos h]
    · rw [if_neg h, if_neg h]; exact dirE_dirF p0 r
theorem neg_num (x : Rat) : (0 - x).num = -x.num := by rw [Rat.sub_eq_add_neg, Rat.zero_add, Rat.neg_num]
theorem neg_den (x : Rat) : (0 - x).den = x.den := by rw [Rat.sub_eq_add_neg, Rat.zero_add, Rat.neg_den]
theorem opp1 (p0 : Pt) (l : List Pt) : -(dirE p0 l).1.num = (dirF p0 l).1.num ∧ ((dirE p0 l).1.den : Int) = ((dirF p0 l).1.den : Int) ∧ -(dirE p0 l).2.num = (dirF p0 l).2.num ∧ ((dirE p0 l).2.den : Int) = ((dirF p0 l).2.den : Int) := by
  rw [dirE_dirF]
  unfold pneg
  refine ⟨?_, ?_, ?_, ?_⟩
  · show -(0 - (dirF p0 l).1).num = _; rw [neg_num]; omega
  · show ((0 - (dirF p0 l).1).den : Int) = _; rw [neg_den]
  · show -(0 - (dirF p0 l).2).num = _; rw [neg_num]; omega
  · show ((0 - (dirF p0 l).2).den : Int) = _; rw [neg_den]
theorem Bp.psub {p q : Pt} (hp : Bp 900 p) (hq : Bp 900 q) : Bp 8000 (psub p q) := ⟨(Bd.sub hp.1 hq.1).mono (by decide), (Bd.sub hp.2 hq.2).mono (by decide)⟩
theorem ct_wayX {w : World} {mean : ExcName → Option Value} {mg mb : Str → Option Value} {news : Led} {told vp vq : Value} {p q d : Pt} (dto : DatIn news told (pd d)) (hr : d = psub q p) (dp9 : DatIn news vp (pd p)) (dq9 : DatIn news vq (pd q))
    (sp : Bp 900 p) (sq : Bp 900 q) : Gives w mean mg mb 14 187 news [] [told, vp, vq] (fun _ r => r = .bool true) := by
  subst hr
  exact ct_way dto dp9 dq9 (Bp.psub sq sp) sp sq
section
variable {prog : Program} {w : World} {A : Around} {E : Value → Shared → Prop} {s : Shared} {h₀ : Heap} {L : Addr} {news n₁ n₂ : Led} {Q : Value → Shared → Prop}
theorem cons_nil {a b : Addr} {v : Value} {vs : List Value} {d : Dat} {ds : List Dat} {n k : Nat} (N : News h₀ L s.heap news) (ha : (a, ({ cls := .type "list", data := .seq (v :: vs).toArray n } : Obj)) ∈ news) (hb : (b, W.listOf #[] k) ∈ news)
    (da : DatAll n₁ (v :: vs) (d :: ds)) (hs : ∀ p ∈ n₁, p ∈ news) (ok : kqdOk 9 (.list (d :: ds)) = true) (hu : A.units + 64 < cLine) (h : Q (.bool false) s) : wpAny (model prog w) A (compareOp .Eq (.ref a) (.ref b)) Q E s :=
  dat_eq (d := .list (d :: ds)) (e := .list []) False N (DatIn.list ha (da.mono hs)) (fun _ h => h) (DatIn.list (vs := []) hb DatAll.nil) (fun _ h => h) ok (by decide) (by simp) hu h
theorem pts_ok (q : Pt) (l : List Pt) : kqdOk 9 (.list (pd q :: l.map pd)) = true := by
  simp only [kqdOk, List.all_cons, Bool.and_eq_true, List.all_eq_true, List.mem_map]
  refine ⟨pd_ok 6 q, ?_⟩
  rintro x ⟨p, _, rfl⟩
  exact pd_ok 6 p
theorem dat_same {a b : Value} {d : Dat} (N : News h₀ L s.heap news) (Da : DatIn n₁ a d) (sa : ∀ p ∈ n₁, p ∈ news) (Db : DatIn n₂ b d) (sb : ∀ p ∈ n₂, p ∈ news) (ok : kqdOk 9 d = true) (hu : A.units + 64 < cLine)
    (h : Q (.bool false) s) : wpAny (model prog w) A (compareOp .NotEq a b) Q E s := dat_ne False N Da sa Db sb ok ok (by simp) hu h
theorem dat_equal {a b : Value} {d e : Dat} (N : News h₀ L s.heap news) (Da : DatIn n₁ a d) (sa : ∀ p ∈ n₁, p ∈ news) (Db : DatIn n₂ b e) (sb : ∀ p ∈ n₂, p ∈ news) (hd : kqdOk 9 d = true) (he : d = e) (hu : A.units + 64 < cLine)
    (h : Q (.bool true) s) : wpAny (model prog w) A (compareOp .Eq a b) Q E s := dat_eq True N Da sa Db sb hd (he ▸ hd) (by simp [he]) hu h
def oppD (i j k l : Int) : Dat := .list [.tuple [.int i, .int j], .tuple [.int k, .int l]]
def wayD (p : Pt) : Dat := .list [qd p.1, qd p.2]
theorem opp_ok (i j k l i' j' k' l' : Int) : kqdOk 9 (.list [oppD i j k l, oppD i' j' k' l']) = true := by simp [kqdOk, oppD]
theorem opp_eq {i j k l i' j' k' l' : Int} {p q : Pt} (h : i = p.1.num ∧ j = (p.1.den : Int) ∧ k = p.2.num ∧ l = (p.2.den : Int)) (h' : i' = q.1.num ∧ j' = (q.1.den : Int) ∧ k' = q.2.num ∧ l' = (q.2.den : Int)) :
    (Dat.list [oppD i j k l, oppD i' j' k' l']) = .list [wayD p, wayD q] := by
  obtain ⟨rfl, rfl, rfl, rfl⟩ := h
  obtain ⟨rfl, rfl, rfl, rfl⟩ := h'
  rfl
theorem opp2 (p0 : Pt) (l : List Pt) : -(dirF p0 l).1.num = (dirE p0 l).1.num ∧ ((dirF p0 l).1.den : Int) = ((dirE p0 l).1.den : Int) ∧ -(dirF p0 l).2.num = (dirE p0 l).2.num ∧ ((dirF p0 l).2.den : Int) = ((dirE p0 l).2.den : Int) := by
  obtain ⟨a, b, c, d⟩ := opp1 p0 l
  exact ⟨by omega, b.symm, by omega, d.symm⟩
theorem opp_true {a b : Value} {i j k l i' j' k' l' : Int} {p q : Pt} (N : News h₀ L s.heap news) (Da : DatIn n₁ a (.list [oppD i j k l, oppD i' j' k' l'])) (sa : ∀ p ∈ n₁, p ∈ news) (Db : DatIn n₂ b (.list [wayD p, wayD q])) (sb : ∀ p ∈ n₂, p ∈ news)
    (h : i = p.1.num ∧ j = (p.1.den : Int) ∧ k = p.2.num ∧ l = (p.2.den : Int)) (h' : i' = q.1.num ∧ j' = (q.1.den : Int) ∧ k' = q.2.num ∧ l' = (q.2.den : Int)) (hu : A.units + 64 < cLine)
    (hQ : Q (.bool true) s) : wpAny (model prog w) A (compareOp .Eq a b) Q E s := dat_equal N Da sa Db sb (opp_ok ..) (opp_eq h h') hu hQ
theorem cvd_ok (l : List Pt) : kqdOk 9 (cvd l) = true := by
  simp only [cvd, kqdOk, List.all_eq_true, List.mem_map]
  rintro x ⟨p, _, rfl⟩
  exact pd_ok 6 p
theorem cv_equal {a b : Value} {l : List Pt} (N : News h₀ L s.heap news) (Da : DatIn n₁ a (cvd l)) (sa : ∀ p ∈ n₁, p ∈ news) (Db : DatIn n₂ b (cvd l)) (sb : ∀ p ∈ n₂, p ∈ news) (hu : A.units + 64 < cLine)
    (h : Q (.bool true) s) : wpAny (model prog w) A (compareOp .Eq a b) Q E s := dat_equal N Da sa Db sb (cvd_ok l) rfl hu h
theorem pt_same {a b : Value} {p : Pt} (N : News h₀ L s.heap news) (Da : DatIn n₁ a (pd p)) (sa : ∀ p ∈ n₁, p ∈ news) (Db : DatIn n₂ b (pd p)) (sb : ∀ p ∈ n₂, p ∈ news) (hu : A.units + 64 < cLine)
    (h : Q (.bool false) s) : wpAny (model prog w) A (compareOp .NotEq a b) Q E s := dat_same N Da sa Db sb (pd_ok 7 p) hu h
end
section
variable {prog : Program} {w : World} {A : Around} {E : Value → Shared → Prop} {s : Shared} {h₀ : Heap} {L : Addr} {news n₁ n₂ : Led} {Q : Value → Shared → Prop}
abbrev tup2 (x y : Value) (n : Nat) : Obj := { cls := .type "tuple", data := .seq #[x, y] n }
theorem zero_q {a : Addr} {n : Nat} {t u : Tok} (h : (a, tup2 (.int 0 t) (.int 1 u) n) ∈ news) : DatIn news (.ref a) (qd 0) := DatIn.tuple (vs := [.int 0 t, .int 1 u]) h (.cons (.int 0 t) (.cons (.int 1 u) .nil))
theorem zero_p {a b c : Addr} {n k l : Nat} {t u t' u' : Tok} (h : (a, tup2 (.ref b) (.ref c) n) ∈ news) (hb : (b, tup2 (.int 0 t) (.int 1 u) k) ∈ news) (hc : (c, tup2 (.int 0 t') (.int 1 u') l) ∈ news) : DatIn news (.ref a) (pd (0, 0)) :=
  DatIn.tuple (vs := [.ref b, .ref c]) h (.cons (zero_q hb) (.cons (zero_q hc) .nil))
theorem zz_same {a b c1 c2 e1 e2 e3 e4 : Addr} {x y : Value} {m1 m2 m3 m4 m5 m6 m7 m8 : Nat} {t1 t2 t3 t4 t5 t6 t7 t8 : Tok} (N : News h₀ L s.heap news) (ha : (a, tup2 x y m1) ∈ news) (dx : DatIn n₁ x (pd (0, 0))) (dy : DatIn n₂ y (pd (0, 0))) (sx : ∀ p ∈ n₁, p ∈ news) (sy : ∀ p ∈ n₂, p ∈ news)
    (hb : (b, tup2 (.ref c1) (.ref c2) m2) ∈ news) (h1 : (c1, tup2 (.ref e1) (.ref e2) m3) ∈ news) (h2 : (c2, tup2 (.ref e3) (.ref e4) m4) ∈ news) (k1 : (e1, tup2 (.int 0 t1) (.int 1 t2) m5) ∈ news) (k2 : (e2, tup2 (.int 0 t3) (.int 1 t4) m6) ∈ news) (k3 : (e3, tup2 (.int 0 t5) (.int 1 t6) m7) ∈ news) (k4 : (e4, tup2 (.int 0 t7) (.int 1 t8) m8) ∈ news)
    (hu : A.units + 64 < cLine) (h : Q (.bool false) s) : wpAny (model prog w) A (compareOp .NotEq (.ref a) (.ref b)) Q E s :=
  dat_same (d := .tuple [pd (0, 0), pd (0, 0)]) N (DatIn.tuple (vs := [x, y]) ha (.cons (dx.mono sx) (.cons (dy.mono sy) .nil))) (fun _ h => h) (DatIn.tuple (vs := [.ref c1, .ref c2]) hb (.cons (zero_p h1 k1 k2) (.cons (zero_p h2 k3 k4) .nil))) (fun _ h => h) (by decide) hu h
end
theorem coff_new {wr : Wr} {C D E' : Addr} {own n r : Led} {o : Obj} (h : @LT.lt Nat _ C E' ∧ @LT.lt Nat _ D E' ∧ AllLt E' (own ++ n)) (w : OwnW wr own) (k : COff wr C D r) : COff wr C D ((E', o) :: r) := fun p hp => by
  rcases List.mem_cons.mp hp with rfl | hp
  · refine ⟨fun hw => ?_, Nat.ne_of_gt h.1, Nat.ne_of_gt h.2.1⟩
    obtain ⟨o', e⟩ := w.1 _ hw
    exact Nat.lt_irrefl _ (ktn_ltOf h.2.2 _ (List.mem_append.mpr (.inl e)))
  · exact k p hp
theorem rev_dat {n l : Led} {D : Addr} {vs : List Value} {k : Nat} {c : List Pt} (h : (D, ({ cls := .type "tuple", data := .seq vs.reverse.toArray k } : Obj)) ∈ l) (d : DatAll n vs (c.map pd)) (hs : ∀ p ∈ n, p ∈ l) : DatIn l (.ref D) (cvd c.reverse) := by
  show DatIn l (.ref D) (.tuple (c.reverse.map pd))
  rw [List.map_reverse]
  exact DatIn.tuple h ((dall_rev d).mono hs)
theorem back_eq {prog : Program} {w : World} {A : Around} {E : Value → Shared → Prop} {s : Shared} {h₀ : Heap} {L : Addr} {news n₁ n₂ : Led} {Q : Value → Shared → Prop} {a : Value} {D : Addr} {vs : List Value} {k : Nat} {c : List Pt} (N : News h₀ L s.heap news) (Da : DatIn n₁ a (cvd c.reverse)) (sa : ∀ p ∈ n₁, p ∈ news)
    (hm : (D, ({ cls := .type "tuple", data := .seq vs.reverse.toArray k } : Obj)) ∈ news) (d : DatAll n₂ vs (c.map pd)) (sd : ∀ p ∈ n₂, p ∈ news) (hu : A.units + 64 < cLine) (h : Q (.bool true) s) : wpAny (model prog w) A (compareOp .Eq a (.ref D)) Q E s :=
  cv_equal N Da sa (rev_dat hm d sd) (fun _ h => h) hu h
theorem opp_N {prog : Program} {w : World} {A : Around} {E : Value → Shared → Prop} {s : Shared} {h₀ : Heap} {L : Addr} {news : Led} {Q : Value → Shared → Prop} {a b : Value} {i j k l i' j' k' l' : Int} {p q : Pt} (N : News h₀ L s.heap news) (Da : DatIn news a (.list [.list [.tuple [.int i, .int j], .tuple [.int k, .int l]], .list [.tuple [.int i', .int j'], .tuple [.int k', .int l']]])) (Db : DatIn news b (.list [.list [qd p.1, qd p.2], .list [qd q.1, qd q.2]]))
    (h : i = p.1.num ∧ j = (p.1.den : Int) ∧ k = p.2.num ∧ l = (p.2.den : Int)) (h' : i' = q.1.num ∧ j' = (q.1.den : Int) ∧ k' = q.2.num ∧ l' = (q.2.den : Int)) (hu : A.units + 64 < cLine)
    (hQ : Q (.bool true) s) : wpAny (model prog w) A (compareOp .Eq a b) Q E s := opp_true N Da (fun _ h => h) Db (fun _ h => h) h h' hu hQ
end
section
theorem rows_cons (t : Rat) (n : Nat) (c : List Pt) : ∃ R', rowsN t n c = c :: R' := by
  cases n with
  | zero => exact ⟨_, rfl⟩
  | succ n => exact ⟨_, rfl⟩
theorem rows_len (t : Rat) : ∀ (n : Nat) (c : List Pt), c.length = n + 1 → (rowsN t n c).map (fun l => Dat.int (l.length : Nat)) = (List.range (n + 1)).map fun (j : Nat) => Dat.int (((n + 1 : Nat) : Int) + (j : Int) * (-1))
  | 0, c, h => by simp [rowsN, h]
  | n + 1, c, h => by
    have ih := rows_len t n (nxt t c) (by rw [nxt_len]; omega)
    rw [rowsN, List.map_cons, ih, show List.range (n + 1 + 1) = 0 :: (List.range (n + 1)).map Nat.succ from List.range_succ_eq_map, List.map_cons, List.map_map, h]
    refine congr (congrArg List.cons ?_) (List.map_congr_left fun j _ => ?_)
    · simp
    · show Dat.int _ = Dat.int _
      congr 1
      simp only [Nat.succ_eq_add_one, Int.natCast_add]
      omega
def RowP (t : Rat) (a b : List Pt) : Prop := b = nxt t a ∧ a.length ≤ 4 ∧ (∀ q ∈ a, Bp 900 q) ∧ ∀ q ∈ b, Bp 8000 q
theorem bnd_step {n : Nat} (h : n + 2 ≤ 4) : 12 * bnd (n + 2) + 8 ≤ bnd (n + 1) ∧ bnd (n + 2) ≤ 900 ∧ bnd (n + 1) ≤ 8000 := by
  have : n = 0 ∨ n = 1 ∨ n = 2 := by omega
  rcases this with rfl | rfl | rfl <;> decide
theorem rows_adj {t : Rat} (ht : Bd 2 t) : ∀ (n : Nat) (c : List Pt), c.length = n + 1 → n + 1 ≤ 4 → (∀ q ∈ c, Bp (bnd (n + 1)) q) → Adj (RowP t) (rowsN t n c)
  | 0, c, _, _, _ => trivial
  | n + 1, c, h, h4, hb => by
    obtain ⟨k1, k2, k3⟩ := bnd_step (n := n) (by omega)
    have hn := nxt_bp ht k1 hb
    have ih := rows_adj ht n (nxt t c) (by rw [nxt_len]; omega) (by omega) hn
    obtain ⟨R', e⟩ := rows_cons t n (nxt t c)
    rw [rowsN, e]
    rw [e] at ih
    exact ⟨⟨rfl, by omega, fun q hq => (hb q hq).mono k2, fun q hq => (hn q hq).mono k3⟩, ih⟩
theorem rows_last {t : Rat} (ht : Bd 2 t) : ∀ (n : Nat) (c : List Pt), c.length = n + 1 → n + 1 ≤ 4 → (∀ q ∈ c, Bp (bnd (n + 1)) q) → ∃ R' p, rowsN t n c = R' ++ [[p]] ∧ Bp 8000 p
  | 0, c, h, _, hb => by
    obtain ⟨p, rfl⟩ := List.length_eq_one_iff.mp h
    exact ⟨[], p, rfl, (hb p (.head _)).mono (by decide)⟩
  | n + 1, c, h, h4, hb => by
    obtain ⟨k1, _, _⟩ := bnd_step (n := n) (by omega)
    obtain ⟨R', p, e, k⟩ := rows_last ht n (nxt t c) (by rw [nxt_len]; omega) (by omega) (nxt_bp ht k1 hb)
    exact ⟨c :: R', p, by rw [rowsN, e]; rfl, k⟩
section
variable {prog : Program} {w : World} {A : Around} {E : Value → Shared → Prop} {s : Shared} {h₀ : Heap} {L : Addr} {news n₁ n₂ : Led} {Q : Value → Shared → Prop}
theorem cv_same {a b : Value} {l : List Pt} (N : News h₀ L s.heap news) (Da : DatIn n₁ a (cvd l)) (sa : ∀ p ∈ n₁, p ∈ news) (Db : DatIn n₂ b (cvd l)) (sb : ∀ p ∈ n₂, p ∈ news) (hu : A.units + 64 < cLine)
    (h : Q (.bool false) s) : wpAny (model prog w) A (compareOp .NotEq a b) Q E s :=
  dat_ne False N Da sa Db sb (cvd_ok l) (cvd_ok l) (by simp) hu h
def SameI (ds es : List Dat) : Prop := ds = es ∧ kqdOk 9 (.list ds) = true
theorem ints_sameN {a b : Addr} {vs ws : List Value} {n k : Nat} {ds es : List Dat} (N : News h₀ L s.heap news) (ha : (a, ({ cls := .type "list", data := .seq vs.toArray n } : Obj)) ∈ news) (hb : (b, ({ cls := .type "list", data := .seq ws.toArray k } : Obj)) ∈ news)
    (da : DatAll n₁ vs ds) (sa : ∀ p ∈ n₁, p ∈ news) (db : IntsD ws es) (e : SameI ds es) (hu : A.units + 64 < cLine)
    (h : Q (.bool false) s) : wpAny (model prog w) A (compareOp .NotEq (.ref a) (.ref b)) Q E s := by
  obtain ⟨rfl, ok⟩ := e
  exact dat_ne (d := .list ds) (e := .list ds) False N (DatIn.list ha (da.mono sa)) (fun _ h => h) (DatIn.list hb (db.all news)) (fun _ h => h) ok ok (by simp) hu h
end
theorem g_between {w : World} {mean : ExcName → Option Value} {mg mb : Str → Option Value} {n1 n2 n3 n4 : Led} {told vp vq vt : Value} {p q : Pt} {t : Rat} (dto : DatIn n1 told (pd (mx t p q))) (dp9 : DatIn n2 vp (pd p)) (dq9 : DatIn n3 vq (pd q)) (dt9 : DatIn n4 vt (qd t))
    (so : Bp 8000 (mx t p q)) (sp : Bp 900 p) (sq : Bp 900 q) (st : Bd 100 t) : Gives w mean mg mb 6 177 (n1 ++ (n2 ++ (n3 ++ n4))) [] [told, vp, vq, vt] (fun _ r => r = .bool true) :=
  ct_between (dto.mono fun _ h => List.mem_append.mpr (.inl h)) (dp9.mono fun _ h => List.mem_append.mpr (.inr (List.mem_append.mpr (.inl h)))) (dq9.mono fun _ h => List.mem_append.mpr (.inr (List.mem_append.mpr (.inr (List.mem_append.mpr (.inl h)))))) (dt9.mono fun _ h => List.mem_append.mpr (.inr (List.mem_append.mpr (.inr (List.mem_append.mpr (.inr h)))))) so sp sq st
theorem ints_ok (l : List Int) : kqdOk 9 (.list (l.map Dat.int)) = true := by
  simp only [kqdOk, List.all_eq_true, List.mem_map]
  rintro x ⟨i, _, rfl⟩
  rfl
theorem ax_bd {n i : Nat} {p : Pt} (h : Bp n p) : Bd n (ax i p) := by unfold ax; split; exact h.1; exact h.2
theorem ax_at {n₁ : Led} {i : Nat} {x y : Value} {p : Pt} (hi : i < 2) (hx : DatIn n₁ x (qd p.1)) (hy : DatIn n₁ y (qd p.2)) : ∃ v, At [x, y] (0 + (i : Int)) v ∧ DatIn n₁ v (qd (ax i p)) := by
  have : i = 0 ∨ i = 1 := by omega
  rcases this with rfl | rfl
  · exact ⟨x, ⟨0, rfl, rfl⟩, hx⟩
  · exact ⟨y, ⟨1, rfl, rfl⟩, hy⟩
theorem last_row {n₁ : Led} {vs : List Value} {c : List Pt} {R' R2 : List (List Pt)} {l : List Pt} (h : DatAll n₁ vs (cvd c :: R'.map cvd)) (e : c :: R' = R2 ++ [l]) : ∃ v, LastV vs v ∧ DatIn n₁ v (cvd l) := by
  have e2 : cvd c :: R'.map cvd = R2.map cvd ++ [cvd l] := by
    have := congrArg (List.map cvd) e
    simpa using this
  rw [e2] at h
  have hl := h.length
  rcases List.eq_nil_or_concat vs with rfl | ⟨us, v, e3⟩
  · simp at hl
  · rw [List.concat_eq_append] at e3
    subst e3
    obtain ⟨es, d, e4, _, h4⟩ := DatAll.snoc h
    have := (List.append_inj' e4 rfl).2
    cases this
    exact ⟨v, ⟨us, rfl⟩, h4⟩
structure StopS : Prop where
theorem reg12 : True := by
  k_with_none
  k_with "kcj_q" => first
    | exact List.mem_cons_self
    | (refine List.mem_cons_of_mem _ ?_; k_extra "kcj_q")
    | (refine List.mem_append.mpr (Or.inr ?_); k_extra "kcj_q")
    | (refine List.mem_append.mpr (Or.inl ?_); k_extra "kcj_q")
    | assumption
    | exact sub_use (by assumption) (by assumption)
  k_with "kd_suf" => first
    | with_reducible exact fun _ h => h
    | (refine sub_cons ?_; k_extra "kd_suf")
    | (refine sub_appR ?_; k_extra "kd_suf")
  k_with "kd_subs" => first
    | k_extra "kd_suf"
    | exact List.forall_mem_nil _
    | assumption
    | (refine List.forall_mem_cons.mpr ⟨?_, ?_⟩; (focus k_extra "kcj_q"); kd_subs)
    | (refine List.forall_mem_append.mpr ⟨?_, ?_⟩; (focus kd_subs); kd_subs)
    | (refine sub_cons ?_; kd_subs)
    | (refine sub_appR ?_; kd_subs)
    | (refine sub_appL ?_; kd_subs)
  k_with "ktn_lt" => first | assumption | exact allLt_of (by assumption) | exact alt1 (by assumption) | exact alt2 (by assumption) | exact alt3 (by assumption) | exact alt4 (by assumption) | exact alt5 (by assumption) | exact alt6 (by assumption)
  k_with "ktn_ord" => first
    | exact Ord.nil
    | assumption
    | (refine Ord.app ?_ ?_ <;> ktn_ord)
    | (refine Ord.lt (by ktn_lt) ?_ ?_; (focus kcj_in); ktn_ord)
    | (refine Ord.le (by ktn_lt) ?_ (by omega) ?_; (focus kcj_in); ktn_ord)
    | (refine Ord.sub (by assumption) ?_; kcj_in)
  k_with "ktr_rel" => first | assumption | (refine DatIn.mono ?_ (by assumption); kd_subs)
  k_with "ktr_enter" => first
    | (refine' code_def (by k_asm) (by k_asm) (by k_asm) (by k_asm) (by k_asm) rfl rfl (by first | assumption | exact rfl) (by k_is) (by k_is) (by k_extra "my room") (by first | exact BindsTo.of_eq rfl | exact binds_K (by k_in) rfl (by k_is) rfl rfl rfl | fail "no rule for these arguments") (locs rfl) ?_ rfl rfl rfl (by decide); k_whole; intro g' L' h' FG' F' N' B' X' T'; (try dsimp only); (try k_fold))
    | (refine' code_defC (by k_asm) (by k_asm) (by k_asm) (by k_asm) (by k_asm) rfl rfl (by first | assumption | exact rfl) (by k_is) (by k_is) (by k_extra "my room") (by first | exact BindsTo.of_eq rfl | exact binds_K (by k_in) rfl (by k_is) rfl rfl rfl | fail "no rule for these arguments") rfl (by decide +kernel) ?_ rfl rfl rfl; k_whole; intro g' L' h' tk' cells' FG' F' N' Y' B' X' T' l1; (try k_lt l1); k_cells Y'; (try simp only [List.cons_append, List.nil_append] at N'); (try dsimp only); (try k_fold))
  k_with "my gend" => (refine' gend (by assumption) (by assumption) (by assumption) (by repeat' (first | exact Split.base0 | refine' Split.skip ?_ | refine' Split.appO (by assumption) ?_ | refine' Split.own ?_)) (by ktn_ord) ?_)
  k_with "my end0" => (refine' gend0 (by assumption) (by assumption) (by assumption) (by kd_subs) ?_; (try unfold Says))
  k_with "my dats" => first | exact DatAll.nil | assumption | (refine DatAll.mono ?_ (by assumption); kd_subs) | (refine DatAll.cons ?_ ?_; (focus k_extra "my dat"); k_extra "my dats")
  k_with "my dat" => first
    | exact DatIn.int _ _
    | assumption
    | (refine DatIn.mono ?_ (by assumption); kd_subs)
    | exact DatIn.tuple (by k_extra "kcj_q") (by k_extra "my dats")
    | exact DatIn.list (by k_extra "kcj_q") (by k_extra "my dats")
  k_with "my rel" => (refine DatIn.mono ?_ (by assumption); kd_subs)
  k_with "my room" => first | exact room1 (by assumption) (by exact rfl) | exact room0 (by assumption) (by exact rfl) | ktr_room
  k_with "my units" => first | exact units1 (by assumption) (by exact rfl) | exact units0 (by assumption) (by exact rfl) | ktr_units
  k_with "my ne" => first | exact ne_gtR (by assumption) (by k_extra "kcj_q") | exact ne_ltR (by assumption) (by k_extra "kcj_q") | k_ne
  k_with "newTuple" => (k_here; k_dflt (refine' kup_newTuple (by k_asm) (by k_asm) ?_ (by kmk_size)); intro D' h' F' N' l1; (try k_sweep))
  k_with "newList" => (k_here; k_dflt (refine' newList_K (by k_asm) (by k_asm) ?_ (by size_fits)); intro l' h' F' N' l1; (try k_sweep))
  k_with "my evv" => first
    | ((with_reducible show Ev _ _ _ _ _ (PySem.Expr.Name _ _) _); exact ev_name (by k_asm) (by exact rfl) (by exact rfl) (by exact rfl) (by decide))
    | ((with_reducible show Ev _ _ _ _ _ (PySem.Expr.Subscript _ (PySem.Expr.Constant _ _ _) _) _); exact ev_item (by k_asm) (by k_extra "my evv") (by k_extra "kcj_q") (by decide) (by exact rfl) (by exact rfl))
  k_with "my ev" => first
    | ((with_reducible show Ev _ _ _ _ _ (PySem.Expr.Constant _ _ _) _); exact ev_int)
    | ((with_reducible show Ev _ _ _ _ _ (PySem.Expr.Name _ _) _); exact ev_nameI (by k_asm) (by exact rfl) (by exact rfl) (by exact rfl) (by decide))
    | ((with_reducible show Ev _ _ _ _ _ (PySem.Expr.Subscript _ (PySem.Expr.Constant _ _ _) _) _); exact ev_itemI (by k_asm) (by k_extra "my evv") (by k_extra "kcj_q") (by decide) (by exact rfl) (by exact rfl))
    | ((with_reducible show Ev _ _ _ _ _ (PySem.Expr.BinOp _ PySem.Operator.Mult _ _) _); exact ev_mul (by k_extra "my ev") (by k_extra "my ev") (by mul_fits))
    | ((with_reducible show Ev _ _ _ _ _ (PySem.Expr.BinOp _ PySem.Operator.Add _ _) _); exact ev_add (by k_extra "my ev") (by k_extra "my ev"))
    | ((with_reducible show Ev _ _ _ _ _ (PySem.Expr.BinOp _ PySem.Operator.Sub _ _) _); exact ev_sub (by k_extra "my ev") (by k_extra "my ev"))
    | ((with_reducible show Ev _ _ _ _ _ (PySem.Expr.UnaryOp PySem.UnaryOp.USub _ _) _); exact ev_neg (by k_extra "my ev"))
  k_with "eval BinOp" => (k_here; k_dflt (refine' ev_runI (by k_extra "my ev") ?_); intro t' tk'; (try dsimp only))
  k_with "eval UnaryOp" => (k_here; (with_reducible show wpAny _ _ (eval (PySem.Expr.UnaryOp _ (PySem.Expr.Subscript _ _ _) _) _) _ _ _); k_dflt (refine' ev_runI (by k_extra "my ev") ?_); intro t' tk'; (try dsimp only))
  k_with "eval Subscript" => (k_here; k_dflt (refine' ev_runV (by k_extra "my evv") ?_); intro tk'; (try dsimp only))
  k_with "my bit" => first | assumption | exact Bd.nu (by assumption) | exact Bd.de (by assumption) | (k_dflt (first | exact bp_nx (by assumption) | exact bp_dx (by assumption) | exact bp_ny (by assumption) | exact bp_dy (by assumption)))
  k_with "my lit" => first
    | ((with_reducible show LitD (PySem.Expr.Constant (PySem.Const.int _) _ _) _); exact lit_int)
    | ((with_reducible show LitD (PySem.Expr.Constant (PySem.Const.str _) _ _) _); exact lit_str)
    | ((with_reducible show LitD (PySem.Expr.UnaryOp PySem.UnaryOp.USub (PySem.Expr.Constant (PySem.Const.int _) _ _) _) _); exact lit_neg)
    | ((with_reducible show LitD (PySem.Expr.Tuple _ _ _) _); exact lit_tuple (by k_extra "my lits") (by exact Nat.le_of_ble_eq_true rfl))
    | ((with_reducible show LitD (PySem.Expr.List _ _) _); exact lit_list (by k_extra "my lits") (by exact Nat.le_of_ble_eq_true rfl))
  k_with "my lits" => first
    | ((with_reducible show LitA [] _); exact litA_nil)
    | ((with_reducible show LitA (_ :: _) _); exact litA_cons (by k_extra "my lit") (by k_extra "my lits"))
  k_with "my dvs" => first
    | ((with_reducible show DvA _ _ _ _ _ _ _ _ [] _); exact dvA_nil)
    | ((with_reducible show DvA _ _ _ _ _ _ _ _ (_ :: _) _); exact dvA_cons (by k_extra "my dv") (by k_extra "my dvs"))
  k_with "my dv" => first
    | ((with_reducible show Dv _ _ _ _ _ _ _ _ (PySem.Expr.Name _ _) _); exact dv_name (by exact rfl) (by k_extra "my dat") (by exact rfl) (by exact rfl) (by decide))
    | ((with_reducible show Dv _ _ _ _ _ _ _ _ (PySem.Expr.Constant _ _ _) _); exact dv_lit (by k_extra "my lit"))
    | ((with_reducible show Dv _ _ _ _ _ _ _ _ (PySem.Expr.Subscript _ (PySem.Expr.Constant _ _ _) _) _); first | exact dv_item (by k_extra "my dv") (by decide) (by exact rfl) (by exact rfl) | exact dv_item0 (by k_extra "my dv"))
    | ((with_reducible show Dv _ _ _ _ _ _ _ _ (PySem.Expr.Tuple _ _ _) _); first | exact dv_lit (by k_extra "my lit") | exact dv_tuple (by k_extra "my dvs") (by exact Nat.le_of_ble_eq_true rfl))
    | ((with_reducible show Dv _ _ _ _ _ _ _ _ (PySem.Expr.List _ _) _); exact dv_lit (by k_extra "my lit"))
    | ((with_reducible show Dv _ _ _ _ _ _ _ _ (PySem.Expr.BinOp _ PySem.Operator.Mult _ _) _); exact dv_mul (by k_extra "my dv") (by k_extra "my dv") (by mul_fits))
    | ((with_reducible show Dv _ _ _ _ _ _ _ _ (PySem.Expr.BinOp _ PySem.Operator.Add _ _) _); exact dv_add (by k_extra "my dv") (by k_extra "my dv"))
    | ((with_reducible show Dv _ _ _ _ _ _ _ _ (PySem.Expr.BinOp _ PySem.Operator.Sub _ _) _); exact dv_sub (by k_extra "my dv") (by k_extra "my dv"))
    | ((with_reducible show Dv _ _ _ _ _ _ _ _ (PySem.Expr.UnaryOp PySem.UnaryOp.USub _ _) _); exact dv_neg (by k_extra "my dv"))
    | ((with_reducible show Dv _ _ _ _ _ _ _ _ (PySem.Expr.Call _ _ _ _) _); exact dv_call (by k_asm) (by k_asm) (by k_asm) (by exact rfl) (by k_extra "my fn") (by k_is) (by exact rfl) (by k_extra "my dv") (by k_extra "my dvs") (by exact rfl) (by k_extra "my con") (by k_extra "my room") (by k_extra "my units"))
  k_with "eval Call" => (k_here; k_dflt (refine Wq.out ?_; refine' dv_runB (by assumption) (by k_asm) (by k_asm) (by kd_subs) (by kd_subs) (by k_extra "my dv") ?_); intro v9 t9 h9 tk9 F9 N9 O9 D9; (have hB9 := baseOf (by assumption) D9); (try k_dflt (k_extra "my got")); (try k_sweep))
  k_with "eval Tuple" => (k_here; k_dflt (refine Wq.out ?_; refine' dv_runB (by assumption) (by k_asm) (by k_asm) (by kd_subs) (by kd_subs) (by k_extra "my dv") ?_); intro v9 t9 h9 tk9 F9 N9 O9 D9; (have hB9 := baseOf (by assumption) D9); (try k_dflt (k_extra "my got")); (try k_sweep))
  k_with "eval List" => (k_here; k_dflt (refine Wq.out ?_; refine' dv_runB (by assumption) (by k_asm) (by k_asm) (by kd_subs) (by kd_subs) (by k_extra "my dv") ?_); intro v9 t9 h9 tk9 F9 N9 O9 D9; (have hB9 := baseOf (by assumption) D9); (try k_dflt (k_extra "my got")); (try k_sweep))
  k_with "exec Assign" => (k_here; (with_reducible show wpAny _ _ (exec (PySem.Stmt.Assign [PySem.Expr.Tuple [PySem.Expr.Name _ _, PySem.Expr.Name _ _] _ _] _ _) _) _ _ _); k_dflt (refine Wq.out ?_; refine' dv_pair (by assumption) (by k_asm) (by k_asm) (by kd_subs) (by kd_subs) (by k_extra "my dv") (by with_unfolding_all rfl) (by exact rfl) (by exact rfl) (by exact rfl) (by exact rfl) (by exact rfl) ?_); intro vx9 vy9 t9 h9 tk9 F9 N9 O9 D9 E9; (have hB9 := baseOf (by assumption) D9); (try k_sweep))
  k_with "exec Return some" => (k_here; k_dflt (refine Wq.out ?_; refine' dv_ret (by assumption) (by k_asm) (by k_asm) (by kd_subs) (by kd_subs) (by k_extra "my dv") ?_); intro v9 t9 h9 tk9 F9 N9 O9 D9; (try k_sweep))
  k_with "exec Assign" => (k_here; (with_reducible show wpAny _ _ (exec (PySem.Stmt.Assign [PySem.Expr.Name _ _] _ _) _) _ _ _); k_dflt (refine Wq.out ?_; refine' dv_set (by assumption) (by k_asm) (by k_asm) (by kd_subs) (by kd_subs) (by k_extra "my dv") (by exact rfl) (by exact rfl) (by exact rfl) ?_); intro v9 t9 h9 tk9 F9 N9 O9 D9; (have hB9 := baseOf (by assumption) D9); (try k_dflt (k_extra "my got")); (try k_sweep))
  k_with "my fn" => first
    | ((with_reducible show FnAt _ _ _ _ _ (compEnvC _ _ _ _) _ _); exact fnC (by k_asm) (by k_asm) (by k_is) (by exact rfl) (by exact rfl) (by exact rfl) (by decide))
    | exact fnX (by k_asm) (by k_asm) (by exact rfl) (by k_is) (by exact rfl) (by decide)
  k_with "subscriptTail Name Slice ref ref" => (k_here; (with_reducible show wpAny _ _ (subscriptTail _ (PySem.Expr.Slice none none (some _) _) (Value.ref _) (Value.ref _)) _ _ _); k_dflt (refine' tup_rev (by k_asm) (by k_asm) (by k_mem) rfl ?_ (by with_unfolding_all rfl) (by kmk_pure) (by first | exact Nat.le_of_ble_eq_true rfl | exact LenOk.le (by assumption))); intro D' h' F' N' l1; (try k_sweep))
  k_with "subscriptTail Name Slice ref ref" => (k_here; (with_reducible show wpAny _ _ (subscriptTail _ (PySem.Expr.Slice (some _) none none _) (Value.ref _) (Value.ref _)) _ _ _); k_dflt (refine' tup_tail (by k_asm) (by k_asm) (by k_mem) ?_ (by with_unfolding_all rfl) (by kmk_pure) (by first | exact Nat.le_of_ble_eq_true rfl | exact LenOk.le (by assumption))); intro D' h' F' N' l1; (try k_sweep))
  k_with "exec For" => (k_here; (rename Fr _ _ _ _ => lF'); (with_unfolding_all refine' For_turns lF' ?_; k_whole))
  k_with "exec For Name Subscript cons nil" => (k_here; (rename Fr _ _ _ _ => lF'); (with_unfolding_all refine' For_turns lF' ?_; k_whole))
  k_with "exec For Tuple Call cons nil" => (k_here; (rename Fr _ _ _ _ => lF'); (with_unfolding_all refine' For_turns lF' ?_; k_whole))
  k_with "exec For Name Call cons nil" => (k_here; (rename Fr _ _ _ _ => lF'); (with_unfolding_all refine' For_turns lF' ?_; k_whole))
  k_with "exec For Name Call cons cons" => (k_here; (rename Fr _ _ _ _ => lF'); (with_unfolding_all refine' For_turns lF' ?_; k_whole))
  k_with "pyIter ref" => (k_here; (with_reducible show wpAny _ _ (pyIter (Value.ref _)) (fun it s₂ => TurnsAt _ _ _ _ _ _ _ _ _ it s₂) _ _); k_dflt (refine' for_tup (by with_unfolding_all rfl) (by k_asm) (by k_asm) (by k_mem) rfl rfl ?_); (try dsimp only [List.map_cons, List.map_nil]))
  k_with "PRest" => first
    | (refine PRest.succ ?_; intro t' own' h' tk' F' N'; (try simp only [bindB] at F'); (try k_sweep); (try k_fold))
    | (refine PRest.zero ?_; intro h' tk' F' N'; (try k_sweep))
  k_with "TPost" => first | (dsimp only [TPost]) | (refine TPost.ret ?_; (try dsimp only)) | (refine TPost.next ?_) | (refine TPost.cont ?_)
  k_with "TEnd" => (refine TEnd.intro (by k_asm) (by k_asm) (by kd_subs) ?_)
  k_with "my bits" => first | k_extra "my bit" | exact Bits.mul (by k_extra "my bits") (by k_extra "my bits") | exact Bits.add (by k_extra "my bits") (by k_extra "my bits") | exact Bits.sub (by k_extra "my bits") (by k_extra "my bits") | exact Bits.neg (by k_extra "my bits") | exact Bits.lit (by decide)
  k_with "my bitsle" => exact Bits.mono (by k_extra "my bits") (by decide)
  k_with "mul_fits" => first | (refine Bits.ok (n := 8000) (m := 8000) ?_ ?_ (by decide) <;> assumption) | (refine Bits.ok (by k_extra "my bits") (by k_extra "my bits") (by decide))
  k_with "call type:zip" => (k_here; (with_reducible show wpAny _ _ (call (Value.type _) [Value.ref _, Value.ref _, Value.ref _]) (fun xv s₁ => wpAny _ _ (pyIter xv) (fun it s₂ => TurnsAt _ _ _ _ _ _ _ _ _ it s₂) _ s₁) _ _); k_dflt (refine' for_zip3 (by with_unfolding_all rfl) (by k_asm) (by k_asm) (by k_mem) (by k_mem) (by k_mem) (by exact rfl) (by exact rfl) rfl rfl rfl rfl ?_); (try dsimp only [trip3]))
  k_with "call type:tuple" => (k_here; (with_reducible show wpAny _ _ (call (Value.type _) [Value.ref _]) _ _ _); k_dflt (refine' call_tuple_tup (News.isTup (by k_asm) (by k_mem)) ?_))
  k_with "eval ListComp" => (k_here; (rename Fr _ _ _ _ => lF'); k_dflt (refine' comp_eval lF' rfl (by decide) rfl (by decide) ?_ (by intro _; rfl)))
  k_with "exec Assign cons ListComp" => (k_here; (rename Fr _ _ _ _ => lF'); k_dflt (refine' comp_assign lF' rfl rfl (by decide) rfl (by decide) rfl rfl ?_ (by intro _; rfl)))
  k_with "k_all" => first
    | exact List.forall_mem_nil _
    | assumption
    | (refine' List.forall_mem_cons.mpr ⟨?_, ?_⟩; (focus first | k_extra "my ne" | assumption | exact ne_gt (by ktn_lt) (by k_extra "kcj_q") | exact ne_lt (by ktn_lt) (by k_extra "kcj_q")); k_all)
    | (refine' List.forall_mem_append.mpr ⟨?_, ?_⟩; (focus k_all); k_all)
    | exact off_gt (by assumption) (by k_extra "kcj_q")
    | exact off_leS (by assumption) (by omega)
    | exact off_le (by ktn_lt) (by kd_subs) (by omega)
  k_with "k_upd" => first | exact Upd.head (by k_all) | ((with_reducible show Upd _ _ _ (_ :: _) _); exact Upd.tail (by k_extra "my ne") (by k_upd)) | (refine' upd_app ?_ ?_; (focus k_all); k_upd)
  k_with "k_updF" => first | exact UpdF.head (by k_all) | ((with_reducible show UpdF _ _ (_ :: _) _); exact UpdF.tail (by k_extra "my ne") (by k_updF)) | (refine' updF_app ?_ ?_; (focus k_all); k_updF)
  k_with "k_mem" => k_extra "kcj_q"
  k_with "pyIter ref" => (k_here; (with_reducible show wpAny _ _ (pyIter (Value.ref _)) (fun it s₂ => CompAt _ _ _ _ _ _ _ _ _ _ _ _ _ it s₂) _ _); k_dflt (refine' comp_range (by with_unfolding_all rfl) (by assumption) (by first | rfl | decide | exact small_of (by assumption)) (by first | rfl | exact Int.toNat_of_nonneg (by decide) | exact size_of _) (by k_asm) (by k_asm) rfl rfl (by first | decide | exact Nat.le_of_ble_eq_true rfl | exact LenOk.le (by assumption)) ?_); intro I' s9 hs9; (obtain ⟨h9, e9⟩ := hs9); subst e9; (try simp only [List.range, List.range.loop, List.map_cons, List.map_nil]); (try k_sweep))
  k_with "pyIter ref" => (k_here; (with_reducible show wpAny _ _ (pyIter (Value.ref _)) (fun it s₂ => CompAt _ _ _ _ _ _ _ _ _ _ _ _ _ it s₂) _ _); k_dflt (refine' comp_list (by with_unfolding_all rfl) (by k_asm) (by k_asm) (by k_mem) rfl rfl (by first | exact Nat.le_of_ble_eq_true rfl | exact LenOk.le (by assumption)) ?_); intro I' s9 hs9; (obtain ⟨h9, e9⟩ := hs9); subst e9; (try simp only [List.map_cons, List.map_nil]); (try k_sweep))
  k_with "pyIter ref" => (k_here; (with_reducible show wpAny _ _ (pyIter (Value.ref _)) (fun it s₂ => CompAt _ _ _ _ _ _ _ _ _ _ _ _ _ it s₂) _ _); k_dflt (refine' comp_tup (by with_unfolding_all rfl) (by k_asm) (by k_asm) (by k_mem) rfl rfl (by first | exact Nat.le_of_ble_eq_true rfl | exact LenOk.le (by assumption)) ?_); intro I' s9 hs9; (obtain ⟨h9, e9⟩ := hs9); subst e9; (try simp only [List.map_cons, List.map_nil]); (try k_sweep))
  k_with "call type:zip" => (k_here; (with_reducible show wpAny _ _ (call (Value.type _) [Value.ref _, Value.ref _, Value.ref _]) (fun xv s₁ => wpAny _ _ (pyIter xv) (fun it s₂ => CompAt _ _ _ _ _ _ _ _ _ _ _ _ _ it s₂) _ s₁) _ _); k_dflt (refine' comp_zip3 (by with_unfolding_all rfl) (by k_asm) (by k_asm) (by k_mem) (by k_mem) (by k_mem) (by exact rfl) (by exact rfl) (by exact Nat.le_of_ble_eq_true rfl) rfl rfl rfl rfl (by decide) (by decide) (by decide) ?_); intro I' s9 hs9; (obtain ⟨h9, e9⟩ := hs9); subst e9; (try dsimp only [trip3]); (try k_sweep))
  k_with "CRest" => first
    | (refine CRest.zero ?_)
    | (refine CRest.plain ?_; intro t' own' C' oC' D' m' h' tk' E' hC' hx' F' N' off' wo'; (first | (obtain ⟨hx1, hx2, hx3, _⟩ := hx'; (try dsimp only at hx1 hx2 hx3)) | (obtain ⟨hx1, _⟩ := hx'; (try dsimp only at hx1))); (try k_sweep); (try k_fold))
    | (refine CRest.test ?_; intro t' own' C' oC' D' m' h' tk' E' hC' hx' F' N' off' wo'; (first | (obtain ⟨hx1, hx2, hx3, _⟩ := hx'; (try dsimp only at hx1 hx2 hx3)) | (obtain ⟨hx1, _⟩ := hx'; (try dsimp only at hx1))); (try k_sweep); (try k_fold))
  k_with "my coff" => first
    | exact coff_nil
    | assumption
    | (with_reducible refine' coff_e (by assumption) (by k_extra "kcj_q") ?_; k_extra "my coff")
    | (with_reducible refine' coff_consW (by assumption) (by ktn_lt) (by k_extra "kcj_q") (by k_extra "kcj_q") (by kd_subs) ?_; k_extra "my coff")
    | (with_reducible refine' coff_app ?_ ?_; (focus k_extra "my coff"); k_extra "my coff")
    | (with_reducible refine' coff_sub (by assumption) (by kd_subs))
    | (with_reducible refine' coff_ordW (by assumption) (by assumption) (by k_extra "kcj_q") (by k_extra "kcj_q") (by kd_subs))
  k_with "CEnd" => (k_dflt (refine' cend (by k_asm) (by k_asm) (by k_extra "kcj_q") (by k_extra "kcj_q") (by kd_subs) (by repeat' (first | exact CS.base | refine' CS.skip ?_)) (by k_extra "my coff") ?_); (try simp only [List.nil_append, List.cons_append]))
  k_with "FinC" => (unfold FinC; intro D' h' tk' F' N' o1' l1'; (try dsimp only [PyProof.Rows.LCg.lst, List.length_cons, List.length_nil] at N'); (try simp only [AllLt, and_true] at l1'); (try dsimp only))
  k_with "FinS" => (unfold FinS; intro D' h' tk' F' N' o1' l1'; (try dsimp only [PyProof.Rows.LCg.lst, List.length_cons, List.length_nil] at N'); (try simp only [AllLt, and_true] at l1'); (try dsimp only))
  k_with "my sub" => (k_here; (with_reducible show wpAny _ _ (subscriptTail _ _ (Value.ref _) (Value.int _ _)) _ _ _); k_dflt (first
    | ((with_reducible show wpAny _ _ (subscriptTail _ _ (Value.ref _) (Value.int 0 _)) _ _ _); first | refine' item_tup0 (by k_asm) (by k_extra "kcj_q") ?_ (by with_unfolding_all rfl) | refine' item_tup0S (by k_asm) (by assumption) (by exact rfl) (by kd_subs) ?_ (by with_unfolding_all rfl))
    | (refine' item_tupS (by k_asm) (by assumption) (by exact rfl) (by kd_subs) (by decide) (by decide) (by exact rfl) (by exact rfl) ?_ (by with_unfolding_all rfl))
    | (refine' item_lstS (by k_asm) (by assumption) (by exact rfl) (by kd_subs) (by decide) (by decide) (by exact rfl) ?_ (by with_unfolding_all rfl))
    | (refine' item_lstNS (by k_asm) (by assumption) (by exact rfl) (by kd_subs) (by decide) (by decide) (by exact rfl) (by exact rfl) ?_ (by with_unfolding_all rfl))
    | (refine' item_lst (by k_asm) (by k_extra "kcj_q") (by decide) (by decide) (by exact rfl) ?_ (by with_unfolding_all rfl))
    | (refine' item_lstN (by k_asm) (by k_extra "kcj_q") (by decide) (by decide) (by exact rfl) (by exact rfl) ?_ (by with_unfolding_all rfl))))
  k_with "subscriptTail" => k_extra "my sub"
  k_with "subscriptTail Name" => k_extra "my sub"
  k_with "subscriptTail Subscript" => k_extra "my sub"
  k_with "subscriptTail Name Constant ref int" => k_extra "my sub"
  k_with "subscriptTail Name Name ref int" => k_extra "my sub"
  k_with "subscriptTail Name BinOp ref int" => k_extra "my sub"
  k_with "subscriptTail Name UnaryOp ref int" => k_extra "my sub"
  k_with "call ref" => (k_here; k_dflt (refine' Gives.useB (by k_asm) (by k_asm) (by k_asm) (by k_asm) (by k_asm) (by first | exact rfl | assumption) (ct_is (by assumption) (by assumption) (by k_extra "my bitsle") (by k_extra "my bitsle") (by k_extra "my is")) (by kd_subs) (by k_extra "my room") (by k_extra "my units") ?_); intro h9 tk9 F9 N9; (try k_sweep); (try dsimp only); (try k_fold))
  k_with "my is" => exact mix_eq _ _ _
  k_with "my sub" => (k_here; (with_reducible show wpAny _ _ (subscriptTail _ _ (Value.ref _) (Value.int _ _)) _ _ _); k_dflt (first
    | (refine' item_tupAt (by k_asm) (by k_extra "kcj_q") (by with_reducible assumption) (by assumption) ?_ (by with_unfolding_all rfl))
    | (refine' item_lstAt (by k_asm) (by k_extra "kcj_q") (by with_reducible assumption) (by assumption) ?_ (by with_unfolding_all rfl))))
  k_with "my sub" => (k_here; (with_reducible show wpAny _ _ (subscriptTail _ _ (Value.ref _) (Value.int (-1) _)) _ _ _); k_dflt (first
    | (refine' item_lstLast (by k_asm) (by k_extra "kcj_q") (by with_reducible assumption) ?_ (by with_unfolding_all rfl))
    | (refine' item_tupLast (by k_asm) (by k_extra "kcj_q") (by with_reducible assumption) ?_ (by with_unfolding_all rfl))))
  k_with "call builtin:len" => (k_here; (with_reducible show wpAny _ _ (call (Value.builtin "len") [Value.ref _]) _ _ _); k_dflt (first
    | (refine' len_tupL (by k_asm) (by k_extra "kcj_q") (by assumption) ?_)
    | (refine' len_lstL (by k_asm) (by k_extra "kcj_q") (by assumption) ?_)); intro t9 t8; (try dsimp only [List.length_cons, List.length_nil]); (try dsimp only))
  k_with "call type:tuple" => (k_here; (with_reducible show wpAny _ _ (call (Value.type _) [Value.ref _]) _ _ _); k_dflt (refine' tup_of_list (by k_asm) (by k_asm) (by k_extra "kcj_q") (by assumption) ?_); intro D' h' F' N' l1; (try k_sweep))
  k_with "call builtin:list.append" => (k_here; (with_reducible show wpAny _ _ (call (Value.builtin _) [Value.ref _, _]) _ _ _); k_dflt (refine' append_L (by k_asm) (by k_asm) (by first | refine' Upd.tail (by k_extra "my ne") (Upd.tail (by k_extra "my ne") (upd_app (by k_all) (Upd.head (by k_all)))) | k_upd) (by assumption) ?_); intro h' F' N'; (try k_sweep))
  k_with "call ref" => (k_here; k_dflt (refine' Gives.useB (by k_asm) (by k_asm) (by k_asm) (by k_asm) (by k_asm) (by first | exact rfl | assumption) (g_between (by assumption) (by assumption) (by assumption) (by assumption) (by assumption) (by assumption) (by assumption) (by assumption)) (by kd_subs) (by k_extra "my room") (by k_extra "my units") ?_); intro h9 tk9 F9 N9; (try k_sweep); (try dsimp only); (try k_fold))
  k_with "call ref" => (k_here; k_dflt (refine' Gives.useD (by k_asm) (by k_asm) (by k_asm) (by k_asm) (by k_asm) (by first | exact rfl | assumption) (ct_steps (by assumption) (by assumption) (by assumption) (by assumption) (by assumption)) (by kd_subs) (by k_extra "my room") (by k_extra "my units") ?_); intro r9 t9 h9 tk9 F9 N9 O9 D9; (try simp only [List.nil_append] at D9); (try k_dflt (k_extra "my rows")); (try k_sweep); (try dsimp only); (try k_fold))
  k_with "pyIter ref" => (k_here; (with_reducible show wpAny _ _ (pyIter (Value.ref _)) (fun it s₂ => CompAt _ _ _ _ _ _ _ _ _ _ _ _ _ it s₂) _ _); (have k9 : StopC := by assumption); refine stopW ?_)
  k_with "CEnd" => ((have k9 : StopE := by assumption); refine stopW ?_)
  k_with "compareOp NotEq ref ref" => (k_here; k_dflt (first
    | (refine' cv_same (by k_asm) (by assumption) (by kd_subs) (by assumption) (by kd_subs) (by k_extra "my units") ?_)
    | (refine' ints_sameN (by k_asm) (by k_extra "kcj_q") (by k_extra "kcj_q") (by assumption) (by kd_subs) (by assumption) (by assumption) (by k_extra "my units") ?_)))
  k_with "call type:list" => (k_here; (with_reducible show wpAny _ _ (call (Value.type _) [Value.ref _]) _ _ _); k_dflt (refine' list_down (by assumption) (by with_unfolding_all rfl) (by k_asm) (by k_asm) (by assumption) ?_); intro D9 h9 tk9 ys9 k9 F9 N9 l9 i9; (try k_lt l9); (try k_sweep))
  k_with "call type:zip" => (k_here; (with_reducible show wpAny _ _ (call (Value.type _) [Value.ref _, Value.ref _]) (fun xv s₁ => wpAny _ _ (pyIter xv) (fun it s₂ => TurnsAt _ _ _ _ _ _ _ _ _ it s₂) _ s₁) _ _); k_dflt (refine' for_zip2 (by with_unfolding_all rfl) (by k_asm) (by k_asm) (by k_extra "kcj_q") (by k_extra "kcj_q") rfl rfl rfl ?_))
  k_with "subscriptTail Name Slice ref ref" => (k_here; (with_reducible show wpAny _ _ (subscriptTail _ (PySem.Expr.Slice (some _) none none _) (Value.ref _) (Value.ref _)) _ _ _); k_dflt (first
    | refine' lst_tail (by k_asm) (by k_asm) (by k_extra "kcj_q") (by assumption) ?_ (by with_unfolding_all rfl) (by kmk_pure)
    | refine' tup_tail (by k_asm) (by k_asm) (by k_extra "kcj_q") ?_ (by with_unfolding_all rfl) (by kmk_pure) (by first | exact Nat.le_of_ble_eq_true rfl | exact LenOk.le (by assumption))); intro D' h' F' N' l1; (try k_sweep))
  k_with "pyIter ref" => (k_here; (with_reducible show wpAny _ _ (pyIter (Value.ref _)) (fun it s₂ => TurnsAt _ _ _ _ _ _ _ _ _ it s₂) _ _); (have k9 : StopT := by assumption); refine stopW ?_)
  k_with "subscriptTail Name BinOp ref int" => (k_here; (have k9 : StopS := by assumption); refine stopW ?_)
  k_with "binaryOp Pow int int" => (k_here; k_dflt (refine' powN (by with_reducible assumption) (by assumption) ?_))
  k_with "my is" => assumption
  trivial
set_option maxRecDepth 100000 in
set_option maxHeartbeats 4000000 in
theorem ct_rows {w : World} {mean : ExcName → Option Value} {mg mb : Str → Option Value} {news : Led} {vc vt : Value} {c : List Pt} {t : Rat} (dc : DatIn news vc (cvd c)) (dt : DatIn news vt (qd t)) (hc2 : 2 ≤ c.length ∧ c.length ≤ 4) (bc : ∀ p ∈ c, Bp 3 p) (bt : Bd 2 t) :
    Gives w mean mg mb 20 182 news [] [vc, vt] (fun _ r => r = .bool true) := by
  unfold Gives
  k_fill
  have hc : 1 ≤ c.length ∧ c.length ≤ 4 := ⟨by omega, hc2.2⟩
  have hcn : c.length = (c.length - 1) + 1 := by omega
  have bcn : ∀ q ∈ c, Bp (bnd ((c.length - 1) + 1)) q := fun q hq => (bc q hq).mono (by
    have : c.length = 2 ∨ c.length = 3 ∨ c.length = 4 := by omega
    rcases this with e | e | e <;> rw [e] <;> decide)
  have h4 : (c.length - 1) + 1 ≤ 4 := by omega
  obtain ⟨R', eR⟩ := rows_cons t (c.length - 1) c
  have hlen := rows_len t _ c hcn
  have hadj := rows_adj bt _ c hcn h4 bcn
  obtain ⟨R2, pt, eL, bpt⟩ := rows_last bt _ c hcn h4 bcn
  rw [eR] at hlen hadj eL
  have st : Bd 100 t := bt.mono (by decide)
  have hM := kdMark
  intro dp un gd cn cs a ccd cl outer A₀ base h₀ L m s nw Q E B F X N T hk hn hd hu hret
  replace dc := dc.mono hn
  replace dt := dt.mono hn
  obtain ⟨cA, cn, vs, rfl, mc, dvs, hv⟩ := cvd_open dc
  have hv2 : LenOk vs.length := by unfold LenOk; omega
  obtain ⟨tA, tn, tt1, tt2, rfl, mt⟩ := qd_open dt
  refine wpAny_call ?_
  k_dflt ktr_enter
  have hrow : ∀ l ∈ c :: R', l.length ≤ 4 := by
    intro l hl
    have h1 : Dat.int (l.length : Nat) ∈ (c :: R').map fun l => Dat.int ((l.length : Nat) : Int) := List.mem_map.mpr ⟨l, hl, rfl⟩
    rw [hlen] at h1
    obtain ⟨j, hj, e⟩ := List.mem_map.mp h1
    have := Dat.int.inj e
    omega
  have hS : StopC := ⟨⟩
  have hRl : (cvd c :: R'.map cvd).length = vs.length := by
    have := congrArg List.length hlen
    simp only [List.length_map, List.length_range, List.length_cons] at this ⊢
    omega
  have hsame : SameI ((c :: R').map fun l => Dat.int (l.length : Nat)) ((List.range vs.length).map fun (j : Nat) => Dat.int ((vs.length : Int) + (j : Int) * (-1))) := by
    refine ⟨by rw [hlen, hv, ← hcn], ?_⟩
    have := ints_ok ((c :: R').map fun l => ((l.length : Nat) : Int))
    rw [List.map_map] at this
    exact this
  k_with "my rows" => (rw [eR, List.map_cons] at D9; replace D9 := swapD D9; obtain ⟨lA, ln, rvs, re, rm, rd⟩ := lst_open D9; subst re; obtain ⟨v0, vr, rve, dv0, dvr⟩ := dall_cons rd; subst rve; obtain ⟨b0, bn0, bvs0, be0, bm0, bd0, bl0⟩ := cvd_open dv0; subst be0; (have hA0 : At (Value.ref b0 :: vr) 0 (Value.ref b0) := ⟨0, rfl, rfl⟩); (have hrl := rd.length); (have hrl2 : LenOk (Value.ref b0 :: vr).length := by rw [rd.length, hRl]; exact hv2); clear hrl) 
  k_steps
  unfold StopW
  refine comp_list (by with_unfolding_all rfl) (by k_asm) (by k_asm) (by k_extra "kcj_q") rfl rfl hrl2.le ?_
  intro I s9 hs9
  obtain ⟨h9, e9⟩ := hs9
  subst e9
  refine CRest.ints (R := c :: R') (fun l => ((l.length : Nat) : Int)) rd ?_ ?_
  · intro v l dv hl ys own C oC D m₂ h tk E' k1 k2 k3 k4 k5 k6
    obtain ⟨ra, rn, rvs, rfl, mr, drs, hrl⟩ := cvd_open dv
    have hr4 : LenOk rvs.length := by
      have := hrow l hl
      unfold LenOk
      omega
    have hS2 : StopE := ⟨⟩
    k_steps
    unfold StopW
    exact CEnd.intro (by assumption) (by assumption) (fun _ h => h) k5 ⟨rfl, t9, by rw [hrl]⟩
  · intro ys dys
    k_steps
    refine PRest.adj3 (P := RowP t) (k := PySem.Str.ofString "place_k") ?_ ?_ dv0 dvr hadj
    · intro va vb ra rb o dva dvb hP own h tk F2 N2
      obtain ⟨rfl, hra4, ba, bb⟩ := hP
      obtain ⟨aA, an, avs, rfl, ma, dav, hav⟩ := cvd_open dva
      obtain ⟨bA, bn, bvs, rfl, mb9, dbv, hbv⟩ := cvd_open dvb
      have hal : LenOk avs.length := by unfold LenOk; omega
      have hbl : LenOk bvs.length := by rw [hbv, nxt_len]; unfold LenOk; omega
      have hS3 : StopT := ⟨⟩
      k_steps
      unfold StopW
      refine for_rangeN (n := bvs.length) (by with_unfolding_all rfl) (by assumption) rfl hbl (by k_asm) (by k_asm) rfl rfl ?_
      refine PRest.uptoK ?_ ?_
      · intro i hi t0 own2 h2 tk2 F3 N3
        have hi1 : i + 1 < ra.length := by rw [hbv, nxt_len] at hi; omega
        obtain ⟨qa, ea⟩ : ∃ q, ra[i]? = some q := ⟨_, List.getElem?_eq_getElem (by omega)⟩
        obtain ⟨qb, eb⟩ : ∃ q, ra[i+1]? = some q := ⟨_, List.getElem?_eq_getElem hi1⟩
        obtain ⟨xa, ha, dxa⟩ := at_dat dav ea
        obtain ⟨xb, hb', dxb⟩ := at_dat dav eb
        obtain ⟨xo, ho, dxo⟩ := at_dat dbv (nxt_get t ea eb)
        have hA : At avs (0 + (i : Int)) xa := ⟨i, by omega, ha⟩
        have hB : At avs (0 + (i : Int) + 1) xb := ⟨i + 1, by omega, hb'⟩
        have hO : At bvs (0 + (i : Int)) xo := ⟨i, by omega, ho⟩
        have sa : Bp 900 qa := Bp.at ba ea
        have sb : Bp 900 qb := Bp.at ba eb
        have so : Bp 8000 (mx t qa qb) := Bp.at bb (nxt_get t ea eb)
        k_steps
        all_goals exact rfl
      · intro o2 h2 tk2 F3 N3
        k_steps
        all_goals exact off3_of
    · intro o1 o2 o3 h tk F2 N2
      have hS4 : StopS := ⟨⟩
      k_steps
      unfold StopW
      rename News _ _ _ _ => NL
      obtain ⟨wA, cw, kw, hAw, hmw, hcw⟩ := counts_of NL (n := vs.length) (by omega) coef2 coef3 coef4 (by k_extra "kcj_q") (by k_extra "kcj_q") (by k_extra "kcj_q")
      have hcw2 : LenOk cw.length := by rw [hcw.1]; exact hv2
      refine item_lstAt NL (by k_extra "kcj_q") hAw (by unfold LenOk; simp) ?_ (by with_unfolding_all rfl)
      have hS3 : StopT := ⟨⟩
      k_steps
      unfold StopW
      refine for_rangeN (n := 2) (by with_unfolding_all rfl) (by assumption) rfl (by unfold LenOk; decide) (by k_asm) (by k_asm) rfl rfl ?_
      refine PRest.uptoN [PySem.Str.ofString "top", PySem.Str.ofString "bottom", PySem.Str.ofString "k", PySem.Str.ofString "a", PySem.Str.ofString "b"] (fun _ _ => True) trivial ?_ ?_
      · intro i f hi _ t0 own h2 tk2 F3 N3
        simp only [ov] at F3
        have hxb : ∀ q ∈ c.map (ax i), Bd 3 q := fun q hq => by
          obtain ⟨p, hp, rfl⟩ := List.mem_map.mp hq
          exact ax_bd (bc p hp)
        have bt5 : Bits 5 ((t.den : Int) - t.num) := Bits.sub bt.2 bt.1
        have bs5 : Bits 5 t.num := bt.1.mono (by decide)
        have bd5 : Bits 5 (t.den : Int) := bt.2.mono (by decide)
        k_steps
        unfold StopW
        refine for_rangeN (n := vs.length) (by with_unfolding_all rfl) (by assumption) (by omega) hv2 (by k_asm) (by k_asm) rfl rfl ?_
        refine PRest.uptoN [PySem.Str.ofString "top", PySem.Str.ofString "bottom", PySem.Str.ofString "a", PySem.Str.ofString "b"] (fun j f => ∃ t1 t2, f (PySem.Str.ofString "top") = some (.int (TB vs.length t.num (t.den : Int) (c.map (ax i)) j).1 t1) ∧ f (PySem.Str.ofString "bottom") = some (.int (TB vs.length t.num (t.den : Int) (c.map (ax i)) j).2 t2)) ⟨_, _, rfl, rfl⟩ ?_ ?_
        · intro j g hj hg t1 own3 h3 tk3 F4 N4
          obtain ⟨u1, u2, hg1, hg2⟩ := hg
          simp only [ov, hg1, hg2] at F4
          obtain ⟨p, ep⟩ : ∃ p, c[j]? = some p := ⟨_, List.getElem?_eq_getElem (by omega)⟩
          obtain ⟨vp, hvp, dvp⟩ := at_dat dvs ep
          obtain ⟨pA, pn, px, py, rfl, pm, dpx, dpy⟩ := pd_open dvp
          have hP : At vs (0 + (j : Int)) (.ref pA) := ⟨j, by omega, hvp⟩
          obtain ⟨vx, hX, dX⟩ := ax_at hi dpx dpy
          have h2l : LenOk [px, py].length := by unfold LenOk; simp
          obtain ⟨xA, xn, xt, xu, rfl, xm⟩ := qd_open dX
          obtain ⟨ct, hct⟩ := hcw.2 j hj
          have hC : At cw (0 + (j : Int)) (.int (coef vs.length j) ct) := ⟨j, by omega, hct⟩
          have e1 : PowE (0 + (j : Int)) j := ⟨by omega, by omega⟩
          have e2 : PowE ((vs.length : Int) - 1 - (0 + (j : Int))) (vs.length - 1 - j) := ⟨by omega, by omega⟩
          obtain ⟨y1, y2⟩ := TB_bits (n := vs.length) (xs := c.map (ax i)) bt.1 bt5 hxb (by omega) j (by omega)
          replace y1 : Bits 500 _ := y1.mono (by omega)
          replace y2 : Bits 20 _ := y2.mono (by omega)
          have y3 := coef_bits vs.length j
          have y4 : Bits 9 (t.num ^ j) := (bt.1.pow j).mono (by omega)
          have y5 : Bits 21 (((t.den : Int) - t.num) ^ (vs.length - 1 - j)) := (bt5.pow _).mono (by omega)
          obtain ⟨y6, y7⟩ : Bd 3 (ax i p) := hxb _ (List.mem_map_of_mem (List.mem_of_getElem? ep))
          have hTB := TB_step (n := vs.length) (s := t.num) (d := (t.den : Int)) (xs := c.map (ax i)) (j := j) (q := ax i p) (by rw [List.getElem?_map, ep]; rfl)
          k_steps
          · intro z hz
            simp only [List.mem_cons, List.not_mem_nil, or_false, not_or] at hz
            obtain ⟨z1, z2, z3, z4, z5⟩ := hz
            simp only [z1, z2, z3, z4, z5, if_false]
          · rw [hTB]; rfl
          · rw [hTB]; rfl
        · intro g h3 tk3 hg F4 N4
          obtain ⟨u1, u2, hg1, hg2⟩ := hg
          simp only [ov, hg1, hg2] at F4
          obtain ⟨vl, hvl, dvl⟩ := last_row rd eL
          obtain ⟨lA2, ln2, w0, wr, rfl, lm2, dw0, dwr, _⟩ := cvd_openC dvl
          obtain ⟨pA, pn, px, py, rfl, pm, dpx, dpy⟩ := pd_open dw0
          obtain ⟨vx, hX, dX⟩ := ax_at hi dpx dpy
          have h2l : LenOk [px, py].length := by unfold LenOk; simp
          have e3 : PowE ((vs.length : Int) - 1) (vs.length - 1) := ⟨by omega, by omega⟩
          obtain ⟨y1, y2⟩ := TB_bits (n := vs.length) (xs := c.map (ax i)) bt.1 bt5 hxb (by omega) vs.length (by omega)
          replace y1 : Bits 500 _ := y1.mono (by omega)
          replace y2 : Bits 20 _ := y2.mono (by omega)
          have y4 : Bits 30 ((t.den : Int) ^ (vs.length - 1)) := (bt.2.pow _).mono (by omega)
          have y8 : Bd 8000 (ax i pt) := ax_bd bpt
          have hIs := bern i hc2 (eR.trans eL)
          rw [← hv] at hIs
          k_steps
          · intro z hz
            simp only [List.mem_cons, List.not_mem_nil, or_false, not_or] at hz
            obtain ⟨z1, z2, z3, z4, z5, z6⟩ := hz
            simp only [z1, z2, z3, z4, z5, z6, if_false]
          · trivial
      · intro f h2 tk2 _ F3 N3
        simp only [ov] at F3
        k_steps
        k_extra "my end0"
        exact rfl
end
section
/-! ## the source of draws: a list that the draws change -/
def IntV (v : Value) : Prop := ∃ x t, v = .int x t
theorem ints_all {n : Led} : ∀ {vs : List Value}, (∀ v ∈ vs, IntV v) → ∃ ns : List Int, DatAll n vs (ns.map Dat.int)
  | [], _ => ⟨[], .nil⟩
  | v :: vs, h => by
    obtain ⟨x, t, rfl⟩ := h v (.head _)
    obtain ⟨ns, k⟩ := ints_all (n := n) (vs := vs) fun u hu => h u (.tail _ hu)
    exact ⟨x :: ns, .cons (.int x t) k⟩
structure SrcA (S R : Addr) (oS oR : Obj) : Prop where
  ne : S ≠ R
  ex : ∃ (a b : Int) (t1 t2 : Tok) (n k : Nat) (vs : List Value), 0 ≤ b ∧ b < 2147483647 ∧ oS = W.listOf #[.int a t1, .int b t2, .ref R] n ∧ oR = W.listOf (List.toArray vs) k ∧ LenOk vs.length ∧ ∀ v ∈ vs, IntV v
@[irreducible] def GivesS (w : World) (mean : ExcName → Option Value) (mg mb : Str → Option Value) (n : Nat) (f : Addr) (S R : Addr) (news : Led) (vs : List Value) (Out : Led → Value → Prop) : Prop :=
  ∀ (dp un : Nat) (gd : Option (List Code)) (cn : Str) (cs : Scope) (a : Addr) (ccd : Value) (cl : List (Str × Addr)) (outer : List Env) (A₀ : Around) (base h₀ : Heap) (L : Addr) (m : Str → Option Value) (s : Shared) (nw : Led) (oS oR : Obj)
    (Q E : Value → Shared → Prop),
    Below A₀ base outer h₀ → Fr h₀ L s.heap m → (hd.heap_39 w.params).In h₀ → News h₀ L s.heap ((S, oS) :: (R, oR) :: nw) → Top hd.view_39 (looseW hd.view_39 [Str.ofString "fraction", Str.ofString "direction"]) mean mg mb h₀ → cs.kind = .function → SrcA S R oS oR → (∀ p ∈ nw, p.1 ≠ S) → (∀ p ∈ nw, p.1 ≠ R) → (∀ p ∈ news, p ∈ nw) → dp + n < recursionLimit → un + 8 * n < cLine →
    (∀ r tl oS' oR' h' tk', Fr h₀ L h' m → News h₀ L h' ((S, oS') :: (R, oR') :: (tl ++ nw)) → SrcA S R oS' oR' → Ord ((S, oS) :: (R, oR) :: nw) tl → Says Out tl r → Q r { s with heap := h', toks := tk' }) →
    wpAny (model PySem.Challenge.rw_on0222_01.row.prog w) (ktrTop dp un gd cn cs L a ccd cl outer) (call (.ref f) vs) Q E s
section
variable {prog : Program} {w : World} {A : Around} {E : Value → Shared → Prop} {s : Shared} {h₀ : Heap} {L : Addr} {news : Led} {Q : Value → Shared → Prop}
theorem nil_ne_nil {a b : Addr} {n k : Nat} (N : News h₀ L s.heap news) (ha : (a, W.listOf #[] n) ∈ news) (hb : (b, W.listOf #[] k) ∈ news) (hu : A.units + 64 < cLine) (h : Q (.bool false) s) : wpAny (model prog w) A (compareOp .NotEq (.ref a) (.ref b)) Q E s :=
  dat_ne (d := .list []) (e := .list []) False N (DatIn.list (vs := []) ha DatAll.nil) (fun _ h => h) (DatIn.list (vs := []) hb DatAll.nil) (fun _ h => h) (by decide) (by decide) (by simp) hu h
theorem cons_ne_nil {a b : Addr} {n k : Nat} {v : Value} {vs : List Value} (N : News h₀ L s.heap news) (ha : (a, W.listOf (v :: vs).toArray n) ∈ news) (hb : (b, W.listOf #[] k) ∈ news) (hv : ∀ u ∈ v :: vs, IntV u) (hu : A.units + 64 < cLine) (h : Q (.bool true) s) : wpAny (model prog w) A (compareOp .NotEq (.ref a) (.ref b)) Q E s := by
  obtain ⟨ns, k'⟩ := ints_all (n := news) hv
  have hl := k'.length
  exact dat_ne (d := .list (ns.map Dat.int)) (e := .list []) True N (DatIn.list ha k') (fun _ h => h) (DatIn.list (vs := []) hb DatAll.nil) (fun _ h => h) (by
    simp only [kqdOk, List.all_eq_true, List.mem_map]
    rintro x ⟨i, _, rfl⟩
    rfl) (by decide) (by
    cases ns with
    | nil => simp at hl
    | cons x r => simp) hu h
theorem set_lst {D : Addr} {m : Str → Option Value} {vs : List Value} {n : Nat} {k x : Int} {t u : Tok} {news' : Led} {Q : Unit → Shared → Prop} (F : Fr h₀ L s.heap m) (N : News h₀ L s.heap news) (h0 : 0 ≤ k) (hfit : k < 2 ^ 63) (U : Upd D (W.listOf vs.toArray n) (W.listOf (vs.set k.toNat (.int x u)).toArray n) news news') (h1 : k.toNat < vs.length)
    (h : ∀ h', Fr h₀ L h' m → News h₀ L h' news' → Q () { s with heap := h' }) : wpAny (model prog w) A (setItem (.ref D) (.int k t) (.int x u)) Q E s := by
  obtain ⟨pre, post, rfl, rfl, a, b⟩ := U.split
  have z := N (D, W.listOf vs.toArray n) (List.mem_append.mpr (.inr (.head _)))
  refine ki_setAt z.1 h0 hfit (by rw [List.size_toArray]; omega) (h _ (F.change (Heap.SameBut.update ..) z.2.1 z.2.2) (ki_turn _ N a b ?_ ?_))
  · show vs.toArray.setIfInBounds k.toNat (.int x u) = (vs.set k.toNat (.int x u)).toArray
    apply Array.toList_inj.mp
    simp
  · simp
theorem pop0 {D : Addr} {m : Str → Option Value} {v : Value} {vs : List Value} {n : Nat} {u : Tok} {news' : Led} {Q : Value → Shared → Prop} (F : Fr h₀ L s.heap m) (N : News h₀ L s.heap news) (U : Upd D (W.listOf (v :: vs).toArray n) (W.listOf vs.toArray (n + 1)) news news') (hl : LenOk (v :: vs).length)
    (h : ∀ h', Fr h₀ L h' m → News h₀ L h' news' → Q v { s with heap := h' }) : wpAny (model prog w) A (call (.builtin "list.pop") [.ref D, .int 0 u]) Q E s :=
  kl_popAt (k := 0) (p := []) (q := vs) F N (by decide) (by rw [List.size_toArray, List.length_cons]; exact seq0 _) rfl U (by have := hl.le; simp only [List.length_cons] at *; rw [sizeLine_eq]; omega) h
end
theorem reg13 : True := by
  k_with_none
  k_with "kcj_q" => first
    | exact List.mem_cons_self
    | (refine List.mem_cons_of_mem _ ?_; k_extra "kcj_q")
    | (refine List.mem_append.mpr (Or.inr ?_); k_extra "kcj_q")
    | (refine List.mem_append.mpr (Or.inl ?_); k_extra "kcj_q")
    | assumption
    | exact sub_use (by assumption) (by assumption)
  k_with "kd_suf" => first
    | with_reducible exact fun _ h => h
    | (refine sub_cons ?_; k_extra "kd_suf")
    | (refine sub_appR ?_; k_extra "kd_suf")
  k_with "kd_subs" => first
    | k_extra "kd_suf"
    | exact List.forall_mem_nil _
    | assumption
    | (refine List.forall_mem_cons.mpr ⟨?_, ?_⟩; (focus k_extra "kcj_q"); kd_subs)
    | (refine List.forall_mem_append.mpr ⟨?_, ?_⟩; (focus kd_subs); kd_subs)
    | (refine sub_cons ?_; kd_subs)
    | (refine sub_appR ?_; kd_subs)
    | (refine sub_appL ?_; kd_subs)
  k_with "ktn_lt" => first | assumption | exact allLt_of (by assumption) | exact alt1 (by assumption) | exact alt2 (by assumption) | exact alt3 (by assumption) | exact alt4 (by assumption) | exact alt5 (by assumption) | exact alt6 (by assumption)
  k_with "ktn_ord" => first
    | exact Ord.nil
    | assumption
    | (refine Ord.app ?_ ?_ <;> ktn_ord)
    | (refine Ord.lt (by ktn_lt) ?_ ?_; (focus kcj_in); ktn_ord)
    | (refine Ord.le (by ktn_lt) ?_ (by omega) ?_; (focus kcj_in); ktn_ord)
    | (refine Ord.sub (by assumption) ?_; kcj_in)
  k_with "ktr_rel" => first | assumption | (refine DatIn.mono ?_ (by assumption); kd_subs)
  k_with "ktr_enter" => first
    | (refine' code_def (by k_asm) (by k_asm) (by k_asm) (by k_asm) (by k_asm) rfl rfl (by first | assumption | exact rfl) (by k_is) (by k_is) (by k_extra "my room") (by first | exact BindsTo.of_eq rfl | exact binds_K (by k_in) rfl (by k_is) rfl rfl rfl | fail "no rule for these arguments") (locs rfl) ?_ rfl rfl rfl (by decide); k_whole; intro g' L' h' FG' F' N' B' X' T'; (try dsimp only); (try k_fold))
    | (refine' code_defC (by k_asm) (by k_asm) (by k_asm) (by k_asm) (by k_asm) rfl rfl (by first | assumption | exact rfl) (by k_is) (by k_is) (by k_extra "my room") (by first | exact BindsTo.of_eq rfl | exact binds_K (by k_in) rfl (by k_is) rfl rfl rfl | fail "no rule for these arguments") rfl (by decide +kernel) ?_ rfl rfl rfl; k_whole; intro g' L' h' tk' cells' FG' F' N' Y' B' X' T' l1; (try k_lt l1); k_cells Y'; (try simp only [List.cons_append, List.nil_append] at N'); (try dsimp only); (try k_fold))
  k_with "my gend" => (refine' gend (by assumption) (by assumption) (by assumption) (by repeat' (first | exact Split.base0 | refine' Split.skip ?_ | refine' Split.appO (by assumption) ?_ | refine' Split.own ?_)) (by ktn_ord) ?_)
  k_with "my end0" => (refine' gend0 (by assumption) (by assumption) (by assumption) (by kd_subs) ?_; (try unfold Says))
  k_with "my dats" => first | exact DatAll.nil | assumption | (refine DatAll.mono ?_ (by assumption); kd_subs) | (refine DatAll.cons ?_ ?_; (focus k_extra "my dat"); k_extra "my dats")
  k_with "my dat" => first
    | exact DatIn.int _ _
    | assumption
    | (refine DatIn.mono ?_ (by assumption); kd_subs)
    | exact DatIn.tuple (by k_extra "kcj_q") (by k_extra "my dats")
    | exact DatIn.list (by k_extra "kcj_q") (by k_extra "my dats")
  k_with "my rel" => (refine DatIn.mono ?_ (by assumption); kd_subs)
  k_with "my room" => first | exact room1 (by assumption) (by exact rfl) | exact room0 (by assumption) (by exact rfl) | ktr_room
  k_with "my units" => first | exact units1 (by assumption) (by exact rfl) | exact units0 (by assumption) (by exact rfl) | ktr_units
  k_with "my ne" => first | exact ne_gtR (by assumption) (by k_extra "kcj_q") | exact ne_ltR (by assumption) (by k_extra "kcj_q") | k_ne
  k_with "newTuple" => (k_here; k_dflt (refine' kup_newTuple (by k_asm) (by k_asm) ?_ (by kmk_size)); intro D' h' F' N' l1; (try k_sweep))
  k_with "newList" => (k_here; k_dflt (refine' newList_K (by k_asm) (by k_asm) ?_ (by size_fits)); intro l' h' F' N' l1; (try k_sweep))
  k_with "my evv" => first
    | ((with_reducible show Ev _ _ _ _ _ (PySem.Expr.Name _ _) _); exact ev_name (by k_asm) (by exact rfl) (by exact rfl) (by exact rfl) (by decide))
    | ((with_reducible show Ev _ _ _ _ _ (PySem.Expr.Subscript _ (PySem.Expr.Constant _ _ _) _) _); exact ev_item (by k_asm) (by k_extra "my evv") (by k_extra "kcj_q") (by decide) (by exact rfl) (by exact rfl))
  k_with "my ev" => first
    | ((with_reducible show Ev _ _ _ _ _ (PySem.Expr.Constant _ _ _) _); exact ev_int)
    | ((with_reducible show Ev _ _ _ _ _ (PySem.Expr.Name _ _) _); exact ev_nameI (by k_asm) (by exact rfl) (by exact rfl) (by exact rfl) (by decide))
    | ((with_reducible show Ev _ _ _ _ _ (PySem.Expr.Subscript _ (PySem.Expr.Constant _ _ _) _) _); exact ev_itemI (by k_asm) (by k_extra "my evv") (by k_extra "kcj_q") (by decide) (by exact rfl) (by exact rfl))
    | ((with_reducible show Ev _ _ _ _ _ (PySem.Expr.BinOp _ PySem.Operator.Mult _ _) _); exact ev_mul (by k_extra "my ev") (by k_extra "my ev") (by mul_fits))
    | ((with_reducible show Ev _ _ _ _ _ (PySem.Expr.BinOp _ PySem.Operator.Add _ _) _); exact ev_add (by k_extra "my ev") (by k_extra "my ev"))
    | ((with_reducible show Ev _ _ _ _ _ (PySem.Expr.BinOp _ PySem.Operator.Sub _ _) _); exact ev_sub (by k_extra "my ev") (by k_extra "my ev"))
    | ((with_reducible show Ev _ _ _ _ _ (PySem.Expr.UnaryOp PySem.UnaryOp.USub _ _) _); exact ev_neg (by k_extra "my ev"))
  k_with "eval BinOp" => (k_here; k_dflt (refine' ev_runI (by k_extra "my ev") ?_); intro t' tk'; (try dsimp only))
  k_with "eval UnaryOp" => (k_here; (with_reducible show wpAny _ _ (eval (PySem.Expr.UnaryOp _ (PySem.Expr.Subscript _ _ _) _) _) _ _ _); k_dflt (refine' ev_runI (by k_extra "my ev") ?_); intro t' tk'; (try dsimp only))
  k_with "eval Subscript" => (k_here; k_dflt (refine' ev_runV (by k_extra "my evv") ?_); intro tk'; (try dsimp only))
  k_with "my bit" => first | assumption | exact Bd.nu (by assumption) | exact Bd.de (by assumption) | (k_dflt (first | exact bp_nx (by assumption) | exact bp_dx (by assumption) | exact bp_ny (by assumption) | exact bp_dy (by assumption)))
  k_with "my lit" => first
    | ((with_reducible show LitD (PySem.Expr.Constant (PySem.Const.int _) _ _) _); exact lit_int)
    | ((with_reducible show LitD (PySem.Expr.Constant (PySem.Const.str _) _ _) _); exact lit_str)
    | ((with_reducible show LitD (PySem.Expr.UnaryOp PySem.UnaryOp.USub (PySem.Expr.Constant (PySem.Const.int _) _ _) _) _); exact lit_neg)
    | ((with_reducible show LitD (PySem.Expr.Tuple _ _ _) _); exact lit_tuple (by k_extra "my lits") (by exact Nat.le_of_ble_eq_true rfl))
    | ((with_reducible show LitD (PySem.Expr.List _ _) _); exact lit_list (by k_extra "my lits") (by exact Nat.le_of_ble_eq_true rfl))
  k_with "my lits" => first
    | ((with_reducible show LitA [] _); exact litA_nil)
    | ((with_reducible show LitA (_ :: _) _); exact litA_cons (by k_extra "my lit") (by k_extra "my lits"))
  k_with "my dvs" => first
    | ((with_reducible show DvA _ _ _ _ _ _ _ _ [] _); exact dvA_nil)
    | ((with_reducible show DvA _ _ _ _ _ _ _ _ (_ :: _) _); exact dvA_cons (by k_extra "my dv") (by k_extra "my dvs"))
  k_with "my dv" => first
    | ((with_reducible show Dv _ _ _ _ _ _ _ _ (PySem.Expr.Name _ _) _); exact dv_name (by exact rfl) (by k_extra "my dat") (by exact rfl) (by exact rfl) (by decide))
    | ((with_reducible show Dv _ _ _ _ _ _ _ _ (PySem.Expr.Constant _ _ _) _); exact dv_lit (by k_extra "my lit"))
    | ((with_reducible show Dv _ _ _ _ _ _ _ _ (PySem.Expr.Subscript _ (PySem.Expr.Constant _ _ _) _) _); first | exact dv_item (by k_extra "my dv") (by decide) (by exact rfl) (by exact rfl) | exact dv_item0 (by k_extra "my dv"))
    | ((with_reducible show Dv _ _ _ _ _ _ _ _ (PySem.Expr.Tuple _ _ _) _); first | exact dv_lit (by k_extra "my lit") | exact dv_tuple (by k_extra "my dvs") (by exact Nat.le_of_ble_eq_true rfl))
    | ((with_reducible show Dv _ _ _ _ _ _ _ _ (PySem.Expr.List _ _) _); exact dv_lit (by k_extra "my lit"))
    | ((with_reducible show Dv _ _ _ _ _ _ _ _ (PySem.Expr.BinOp _ PySem.Operator.Mult _ _) _); exact dv_mul (by k_extra "my dv") (by k_extra "my dv") (by mul_fits))
    | ((with_reducible show Dv _ _ _ _ _ _ _ _ (PySem.Expr.BinOp _ PySem.Operator.Add _ _) _); exact dv_add (by k_extra "my dv") (by k_extra "my dv"))
    | ((with_reducible show Dv _ _ _ _ _ _ _ _ (PySem.Expr.BinOp _ PySem.Operator.Sub _ _) _); exact dv_sub (by k_extra "my dv") (by k_extra "my dv"))
    | ((with_reducible show Dv _ _ _ _ _ _ _ _ (PySem.Expr.UnaryOp PySem.UnaryOp.USub _ _) _); exact dv_neg (by k_extra "my dv"))
    | ((with_reducible show Dv _ _ _ _ _ _ _ _ (PySem.Expr.Call _ _ _ _) _); exact dv_call (by k_asm) (by k_asm) (by k_asm) (by exact rfl) (by k_extra "my fn") (by k_is) (by exact rfl) (by k_extra "my dv") (by k_extra "my dvs") (by exact rfl) (by k_extra "my con") (by k_extra "my room") (by k_extra "my units"))
  k_with "eval Call" => (k_here; k_dflt (refine Wq.out ?_; refine' dv_runB (by assumption) (by k_asm) (by k_asm) (by kd_subs) (by kd_subs) (by k_extra "my dv") ?_); intro v9 t9 h9 tk9 F9 N9 O9 D9; (have hB9 := baseOf (by assumption) D9); (try k_dflt (k_extra "my got")); (try k_sweep))
  k_with "eval Tuple" => (k_here; k_dflt (refine Wq.out ?_; refine' dv_runB (by assumption) (by k_asm) (by k_asm) (by kd_subs) (by kd_subs) (by k_extra "my dv") ?_); intro v9 t9 h9 tk9 F9 N9 O9 D9; (have hB9 := baseOf (by assumption) D9); (try k_dflt (k_extra "my got")); (try k_sweep))
  k_with "eval List" => (k_here; k_dflt (refine Wq.out ?_; refine' dv_runB (by assumption) (by k_asm) (by k_asm) (by kd_subs) (by kd_subs) (by k_extra "my dv") ?_); intro v9 t9 h9 tk9 F9 N9 O9 D9; (have hB9 := baseOf (by assumption) D9); (try k_dflt (k_extra "my got")); (try k_sweep))
  k_with "exec Assign" => (k_here; (with_reducible show wpAny _ _ (exec (PySem.Stmt.Assign [PySem.Expr.Tuple [PySem.Expr.Name _ _, PySem.Expr.Name _ _] _ _] _ _) _) _ _ _); k_dflt (refine Wq.out ?_; refine' dv_pair (by assumption) (by k_asm) (by k_asm) (by kd_subs) (by kd_subs) (by k_extra "my dv") (by with_unfolding_all rfl) (by exact rfl) (by exact rfl) (by exact rfl) (by exact rfl) (by exact rfl) ?_); intro vx9 vy9 t9 h9 tk9 F9 N9 O9 D9 E9; (have hB9 := baseOf (by assumption) D9); (try k_sweep))
  k_with "exec Return some" => (k_here; k_dflt (refine Wq.out ?_; refine' dv_ret (by assumption) (by k_asm) (by k_asm) (by kd_subs) (by kd_subs) (by k_extra "my dv") ?_); intro v9 t9 h9 tk9 F9 N9 O9 D9; (try k_sweep))
  k_with "exec Assign" => (k_here; (with_reducible show wpAny _ _ (exec (PySem.Stmt.Assign [PySem.Expr.Name _ _] _ _) _) _ _ _); k_dflt (refine Wq.out ?_; refine' dv_set (by assumption) (by k_asm) (by k_asm) (by kd_subs) (by kd_subs) (by k_extra "my dv") (by exact rfl) (by exact rfl) (by exact rfl) ?_); intro v9 t9 h9 tk9 F9 N9 O9 D9; (have hB9 := baseOf (by assumption) D9); (try k_dflt (k_extra "my got")); (try k_sweep))
  k_with "my fn" => first
    | ((with_reducible show FnAt _ _ _ _ _ (compEnvC _ _ _ _) _ _); exact fnC (by k_asm) (by k_asm) (by k_is) (by exact rfl) (by exact rfl) (by exact rfl) (by decide))
    | exact fnX (by k_asm) (by k_asm) (by exact rfl) (by k_is) (by exact rfl) (by decide)
  k_with "subscriptTail Name Slice ref ref" => (k_here; (with_reducible show wpAny _ _ (subscriptTail _ (PySem.Expr.Slice none none (some _) _) (Value.ref _) (Value.ref _)) _ _ _); k_dflt (refine' tup_rev (by k_asm) (by k_asm) (by k_mem) rfl ?_ (by with_unfolding_all rfl) (by kmk_pure) (by first | exact Nat.le_of_ble_eq_true rfl | exact LenOk.le (by assumption))); intro D' h' F' N' l1; (try k_sweep))
  k_with "subscriptTail Name Slice ref ref" => (k_here; (with_reducible show wpAny _ _ (subscriptTail _ (PySem.Expr.Slice (some _) none none _) (Value.ref _) (Value.ref _)) _ _ _); k_dflt (refine' tup_tail (by k_asm) (by k_asm) (by k_mem) ?_ (by with_unfolding_all rfl) (by kmk_pure) (by first | exact Nat.le_of_ble_eq_true rfl | exact LenOk.le (by assumption))); intro D' h' F' N' l1; (try k_sweep))
  k_with "exec For" => (k_here; (rename Fr _ _ _ _ => lF'); (with_unfolding_all refine' For_turns lF' ?_; k_whole))
  k_with "exec For Name Subscript cons nil" => (k_here; (rename Fr _ _ _ _ => lF'); (with_unfolding_all refine' For_turns lF' ?_; k_whole))
  k_with "exec For Tuple Call cons nil" => (k_here; (rename Fr _ _ _ _ => lF'); (with_unfolding_all refine' For_turns lF' ?_; k_whole))
  k_with "exec For Name Call cons nil" => (k_here; (rename Fr _ _ _ _ => lF'); (with_unfolding_all refine' For_turns lF' ?_; k_whole))
  k_with "exec For Name Call cons cons" => (k_here; (rename Fr _ _ _ _ => lF'); (with_unfolding_all refine' For_turns lF' ?_; k_whole))
  k_with "pyIter ref" => (k_here; (with_reducible show wpAny _ _ (pyIter (Value.ref _)) (fun it s₂ => TurnsAt _ _ _ _ _ _ _ _ _ it s₂) _ _); k_dflt (refine' for_tup (by with_unfolding_all rfl) (by k_asm) (by k_asm) (by k_mem) rfl rfl ?_); (try dsimp only [List.map_cons, List.map_nil]))
  k_with "PRest" => first
    | (refine PRest.succ ?_; intro t' own' h' tk' F' N'; (try simp only [bindB] at F'); (try k_sweep); (try k_fold))
    | (refine PRest.zero ?_; intro h' tk' F' N'; (try k_sweep))
  k_with "TPost" => first | (dsimp only [TPost]) | (refine TPost.ret ?_; (try dsimp only)) | (refine TPost.next ?_) | (refine TPost.cont ?_)
  k_with "TEnd" => (refine TEnd.intro (by k_asm) (by k_asm) (by kd_subs) ?_)
  k_with "my bits" => first | k_extra "my bit" | exact Bits.mul (by k_extra "my bits") (by k_extra "my bits") | exact Bits.add (by k_extra "my bits") (by k_extra "my bits") | exact Bits.sub (by k_extra "my bits") (by k_extra "my bits") | exact Bits.neg (by k_extra "my bits") | exact Bits.lit (by decide)
  k_with "my bitsle" => exact Bits.mono (by k_extra "my bits") (by decide)
  k_with "mul_fits" => first | (refine Bits.ok (n := 8000) (m := 8000) ?_ ?_ (by decide) <;> assumption) | (refine Bits.ok (by k_extra "my bits") (by k_extra "my bits") (by decide))
  k_with "call type:zip" => (k_here; (with_reducible show wpAny _ _ (call (Value.type _) [Value.ref _, Value.ref _, Value.ref _]) (fun xv s₁ => wpAny _ _ (pyIter xv) (fun it s₂ => TurnsAt _ _ _ _ _ _ _ _ _ it s₂) _ s₁) _ _); k_dflt (refine' for_zip3 (by with_unfolding_all rfl) (by k_asm) (by k_asm) (by k_mem) (by k_mem) (by k_mem) (by exact rfl) (by exact rfl) rfl rfl rfl rfl ?_); (try dsimp only [trip3]))
  k_with "call type:tuple" => (k_here; (with_reducible show wpAny _ _ (call (Value.type _) [Value.ref _]) _ _ _); k_dflt (refine' call_tuple_tup (News.isTup (by k_asm) (by k_mem)) ?_))
  k_with "eval ListComp" => (k_here; (rename Fr _ _ _ _ => lF'); k_dflt (refine' comp_eval lF' rfl (by decide) rfl (by decide) ?_ (by intro _; rfl)))
  k_with "exec Assign cons ListComp" => (k_here; (rename Fr _ _ _ _ => lF'); k_dflt (refine' comp_assign lF' rfl rfl (by decide) rfl (by decide) rfl rfl ?_ (by intro _; rfl)))
  k_with "k_all" => first
    | exact List.forall_mem_nil _
    | assumption
    | (refine' List.forall_mem_cons.mpr ⟨?_, ?_⟩; (focus first | k_extra "my ne" | assumption | exact ne_gt (by ktn_lt) (by k_extra "kcj_q") | exact ne_lt (by ktn_lt) (by k_extra "kcj_q")); k_all)
    | (refine' List.forall_mem_append.mpr ⟨?_, ?_⟩; (focus k_all); k_all)
    | exact off_gt (by assumption) (by k_extra "kcj_q")
    | exact off_leS (by assumption) (by omega)
    | exact off_le (by ktn_lt) (by kd_subs) (by omega)
  k_with "k_upd" => first | exact Upd.head (by k_all) | ((with_reducible show Upd _ _ _ (_ :: _) _); exact Upd.tail (by k_extra "my ne") (by k_upd)) | (refine' upd_app ?_ ?_; (focus k_all); k_upd)
  k_with "k_updF" => first | exact UpdF.head (by k_all) | ((with_reducible show UpdF _ _ (_ :: _) _); exact UpdF.tail (by k_extra "my ne") (by k_updF)) | (refine' updF_app ?_ ?_; (focus k_all); k_updF)
  k_with "k_mem" => k_extra "kcj_q"
  k_with "pyIter ref" => (k_here; (with_reducible show wpAny _ _ (pyIter (Value.ref _)) (fun it s₂ => CompAt _ _ _ _ _ _ _ _ _ _ _ _ _ it s₂) _ _); k_dflt (refine' comp_range (by with_unfolding_all rfl) (by assumption) (by first | rfl | decide | exact small_of (by assumption)) (by first | rfl | exact Int.toNat_of_nonneg (by decide) | exact size_of _) (by k_asm) (by k_asm) rfl rfl (by first | decide | exact Nat.le_of_ble_eq_true rfl | exact LenOk.le (by assumption)) ?_); intro I' s9 hs9; (obtain ⟨h9, e9⟩ := hs9); subst e9; (try simp only [List.range, List.range.loop, List.map_cons, List.map_nil]); (try k_sweep))
  k_with "pyIter ref" => (k_here; (with_reducible show wpAny _ _ (pyIter (Value.ref _)) (fun it s₂ => CompAt _ _ _ _ _ _ _ _ _ _ _ _ _ it s₂) _ _); k_dflt (refine' comp_list (by with_unfolding_all rfl) (by k_asm) (by k_asm) (by k_mem) rfl rfl (by first | exact Nat.le_of_ble_eq_true rfl | exact LenOk.le (by assumption)) ?_); intro I' s9 hs9; (obtain ⟨h9, e9⟩ := hs9); subst e9; (try simp only [List.map_cons, List.map_nil]); (try k_sweep))
  k_with "pyIter ref" => (k_here; (with_reducible show wpAny _ _ (pyIter (Value.ref _)) (fun it s₂ => CompAt _ _ _ _ _ _ _ _ _ _ _ _ _ it s₂) _ _); k_dflt (refine' comp_tup (by with_unfolding_all rfl) (by k_asm) (by k_asm) (by k_mem) rfl rfl (by first | exact Nat.le_of_ble_eq_true rfl | exact LenOk.le (by assumption)) ?_); intro I' s9 hs9; (obtain ⟨h9, e9⟩ := hs9); subst e9; (try simp only [List.map_cons, List.map_nil]); (try k_sweep))
  k_with "call type:zip" => (k_here; (with_reducible show wpAny _ _ (call (Value.type _) [Value.ref _, Value.ref _, Value.ref _]) (fun xv s₁ => wpAny _ _ (pyIter xv) (fun it s₂ => CompAt _ _ _ _ _ _ _ _ _ _ _ _ _ it s₂) _ s₁) _ _); k_dflt (refine' comp_zip3 (by with_unfolding_all rfl) (by k_asm) (by k_asm) (by k_mem) (by k_mem) (by k_mem) (by exact rfl) (by exact rfl) (by exact Nat.le_of_ble_eq_true rfl) rfl rfl rfl rfl (by decide) (by decide) (by decide) ?_); intro I' s9 hs9; (obtain ⟨h9, e9⟩ := hs9); subst e9; (try dsimp only [trip3]); (try k_sweep))
  k_with "CRest" => first
    | (refine CRest.zero ?_)
    | (refine CRest.plain ?_; intro t' own' C' oC' D' m' h' tk' E' hC' hx' F' N' off' wo'; (first | (obtain ⟨hx1, hx2, hx3, _⟩ := hx'; (try dsimp only at hx1 hx2 hx3)) | (obtain ⟨hx1, _⟩ := hx'; (try dsimp only at hx1))); (try k_sweep); (try k_fold))
    | (refine CRest.test ?_; intro t' own' C' oC' D' m' h' tk' E' hC' hx' F' N' off' wo'; (first | (obtain ⟨hx1, hx2, hx3, _⟩ := hx'; (try dsimp only at hx1 hx2 hx3)) | (obtain ⟨hx1, _⟩ := hx'; (try dsimp only at hx1))); (try k_sweep); (try k_fold))
  k_with "my coff" => first
    | exact coff_nil
    | assumption
    | (with_reducible refine' coff_e (by assumption) (by k_extra "kcj_q") ?_; k_extra "my coff")
    | (with_reducible refine' coff_consW (by assumption) (by ktn_lt) (by k_extra "kcj_q") (by k_extra "kcj_q") (by kd_subs) ?_; k_extra "my coff")
    | (with_reducible refine' coff_app ?_ ?_; (focus k_extra "my coff"); k_extra "my coff")
    | (with_reducible refine' coff_sub (by assumption) (by kd_subs))
    | (with_reducible refine' coff_ordW (by assumption) (by assumption) (by k_extra "kcj_q") (by k_extra "kcj_q") (by kd_subs))
  k_with "CEnd" => (k_dflt (refine' cend (by k_asm) (by k_asm) (by k_extra "kcj_q") (by k_extra "kcj_q") (by kd_subs) (by repeat' (first | exact CS.base | refine' CS.skip ?_)) (by k_extra "my coff") ?_); (try simp only [List.nil_append, List.cons_append]))
  k_with "FinC" => (unfold FinC; intro D' h' tk' F' N' o1' l1'; (try dsimp only [PyProof.Rows.LCg.lst, List.length_cons, List.length_nil] at N'); (try simp only [AllLt, and_true] at l1'); (try dsimp only))
  k_with "FinS" => (unfold FinS; intro D' h' tk' F' N' o1' l1'; (try dsimp only [PyProof.Rows.LCg.lst, List.length_cons, List.length_nil] at N'); (try simp only [AllLt, and_true] at l1'); (try dsimp only))
  k_with "my sub" => (k_here; (with_reducible show wpAny _ _ (subscriptTail _ _ (Value.ref _) (Value.int _ _)) _ _ _); k_dflt (first
    | ((with_reducible show wpAny _ _ (subscriptTail _ _ (Value.ref _) (Value.int 0 _)) _ _ _); first | refine' item_tup0 (by k_asm) (by k_extra "kcj_q") ?_ (by with_unfolding_all rfl) | refine' item_tup0S (by k_asm) (by assumption) (by exact rfl) (by kd_subs) ?_ (by with_unfolding_all rfl))
    | (refine' item_tupS (by k_asm) (by assumption) (by exact rfl) (by kd_subs) (by decide) (by decide) (by exact rfl) (by exact rfl) ?_ (by with_unfolding_all rfl))
    | (refine' item_lstS (by k_asm) (by assumption) (by exact rfl) (by kd_subs) (by decide) (by decide) (by exact rfl) ?_ (by with_unfolding_all rfl))
    | (refine' item_lstNS (by k_asm) (by assumption) (by exact rfl) (by kd_subs) (by decide) (by decide) (by exact rfl) (by exact rfl) ?_ (by with_unfolding_all rfl))
    | (refine' item_lst (by k_asm) (by k_extra "kcj_q") (by decide) (by decide) (by exact rfl) ?_ (by with_unfolding_all rfl))
    | (refine' item_lstN (by k_asm) (by k_extra "kcj_q") (by decide) (by decide) (by exact rfl) (by exact rfl) ?_ (by with_unfolding_all rfl))))
  k_with "subscriptTail" => k_extra "my sub"
  k_with "subscriptTail Name" => k_extra "my sub"
  k_with "subscriptTail Subscript" => k_extra "my sub"
  k_with "subscriptTail Name Constant ref int" => k_extra "my sub"
  k_with "subscriptTail Name Name ref int" => k_extra "my sub"
  k_with "subscriptTail Name BinOp ref int" => k_extra "my sub"
  k_with "subscriptTail Name UnaryOp ref int" => k_extra "my sub"
  k_with "my sub" => (k_here; (with_reducible show wpAny _ _ (subscriptTail _ _ (Value.ref _) (Value.int _ _)) _ _ _); k_dflt (first
    | (refine' item_tupAt (by k_asm) (by k_extra "kcj_q") (by with_reducible assumption) (by assumption) ?_ (by with_unfolding_all rfl))
    | (refine' item_lstAt (by k_asm) (by k_extra "kcj_q") (by with_reducible assumption) (by assumption) ?_ (by with_unfolding_all rfl))))
  k_with "my sub" => (k_here; (with_reducible show wpAny _ _ (subscriptTail _ _ (Value.ref _) (Value.int (-1) _)) _ _ _); k_dflt (first
    | (refine' item_lstLast (by k_asm) (by k_extra "kcj_q") (by with_reducible assumption) ?_ (by with_unfolding_all rfl))
    | (refine' item_tupLast (by k_asm) (by k_extra "kcj_q") (by with_reducible assumption) ?_ (by with_unfolding_all rfl))))
  k_with "call builtin:len" => (k_here; (with_reducible show wpAny _ _ (call (Value.builtin "len") [Value.ref _]) _ _ _); k_dflt (first
    | (refine' len_tupL (by k_asm) (by k_extra "kcj_q") (by assumption) ?_)
    | (refine' len_lstL (by k_asm) (by k_extra "kcj_q") (by assumption) ?_)); intro t9 t8; (try dsimp only [List.length_cons, List.length_nil]); (try dsimp only))
  k_with "call type:tuple" => (k_here; (with_reducible show wpAny _ _ (call (Value.type _) [Value.ref _]) _ _ _); k_dflt (refine' tup_of_list (by k_asm) (by k_asm) (by k_extra "kcj_q") (by assumption) ?_); intro D' h' F' N' l1; (try k_sweep))
  k_with "call builtin:list.append" => (k_here; (with_reducible show wpAny _ _ (call (Value.builtin _) [Value.ref _, _]) _ _ _); k_dflt (refine' append_L (by k_asm) (by k_asm) (by first | refine' Upd.tail (by k_extra "my ne") (Upd.tail (by k_extra "my ne") (upd_app (by k_all) (Upd.head (by k_all)))) | k_upd) (by assumption) ?_); intro h' F' N'; (try k_sweep))
  k_with "compareOp NotEq ref ref" => (k_here; k_dflt (first
    | (refine' nil_ne_nil (by k_asm) (by k_extra "kcj_q") (by k_extra "kcj_q") (by k_extra "my units") ?_)
    | (refine' cons_ne_nil (by k_asm) (by k_extra "kcj_q") (by k_extra "kcj_q") (by assumption) (by k_extra "my units") ?_)))
  k_with "setItem ref int int" => (k_here; (with_reducible show wpAny _ _ (setItem (Value.ref _) (Value.int _ _) (Value.int _ _)) _ _ _); k_dflt (refine' set_lst (by k_asm) (by k_asm) (by decide) (by decide) (by first | exact Upd.tail (by first | k_extra "my ne" | assumption) (Upd.head (by k_all)) | k_upd) (by exact Nat.le_of_ble_eq_true rfl) ?_); intro h' F' N'; (try k_sweep))
  k_with "call builtin:list.pop" => (k_here; (with_reducible show wpAny _ _ (call (Value.builtin _) [Value.ref _, Value.int 0 _]) _ _ _); k_dflt (refine' pop0 (by k_asm) (by k_asm) (by first | exact Upd.tail (by k_extra "my ne") (Upd.tail (by first | k_extra "my ne" | assumption) (Upd.head (by k_all))) | k_upd) (by assumption) ?_); intro h' F' N'; (try k_sweep))
  trivial
set_option maxRecDepth 100000 in
set_option maxHeartbeats 4000000 in
theorem ct_take {w : World} {mean : ExcName → Option Value} {mg mb : Str → Option Value} {S R : Addr} {top : Int} {t1 : Tok} (ht : 0 < top) (ht2 : top < 100) :
    GivesS w mean mg mb 14 149 S R [] [.ref S, .int top t1] (fun _ r => ∃ k t, r = .int k t ∧ 0 ≤ k ∧ k < top) := by
  unfold GivesS
  k_fill
  have hM := kdMark
  intro dp un gd cn cs a ccd cl outer A₀ base h₀ L m s nw oS oR Q E B F X N T hk hsrc hS hR hn hd hu hret
  obtain ⟨hne, sa, sb, u1, u2, n1, n2, vs, hb0, hb1, rfl, rfl, hvl, hvi⟩ := hsrc
  have hne2 : R ≠ S := hne.symm
  have hbb : Bits 31 sb := Bits.of (by omega)
  refine wpAny_call ?_
  k_dflt ktr_enter
  cases vs with
  | nil =>
    k_steps
    · refine hret _ [] _ _ _ _ (by assumption) (cb_drop (by assumption) (by kd_subs)) ⟨hne, _, _, _, _, _, _, [], hb0, hb1, rfl, rfl, hvl, hvi⟩ Ord.nil ⟨_, _, rfl, Int.fmod_nonneg_of_pos _ ht, Int.fmod_lt_of_pos _ ht⟩
    · refine hret _ [] _ _ _ _ (by assumption) (cb_drop (by assumption) (by kd_subs)) ⟨hne, _, _, _, _, _, _, [], Int.fmod_nonneg_of_pos _ (by decide), Int.fmod_lt_of_pos _ (by decide), rfl, rfl, hvl, hvi⟩ Ord.nil ⟨_, _, rfl, Int.fmod_nonneg_of_pos _ ht, Int.fmod_lt_of_pos _ ht⟩
  | cons v vs =>
    obtain ⟨x, tx, rfl⟩ := hvi v (.head _)
    k_steps
    refine hret _ [] _ _ _ _ (by assumption) (cb_drop (by assumption) (by kd_subs)) ⟨hne, _, _, _, _, _, _, vs, hb0, hb1, rfl, rfl, ?_, fun u hu => hvi u (.tail _ hu)⟩ Ord.nil ⟨_, _, rfl, Int.fmod_nonneg_of_pos _ ht, Int.fmod_lt_of_pos _ ht⟩
    unfold LenOk at hvl ⊢
    simp only [List.length_cons] at hvl
    omega
end
section
theorem GivesS.use {w : World} {mean : ExcName → Option Value} {mg mb : Str → Option Value} {n : Nat} {f S R : Addr} {news : Led} {vs : List Value} {Out : Led → Value → Prop} {dp un : Nat} {gd : Option (List Code)} {cn : Str} {cs : Scope} {a : Addr} {ccd : Value} {cl : List (Str × Addr)} {outer : List Env} {A₀ : Around} {base h₀ : Heap} {L : Addr} {m : Str → Option Value} {s : Shared} {nw led : Led} {oS oR : Obj}
    {Q E : Value → Shared → Prop} (B : Below A₀ base outer h₀) (F : Fr h₀ L s.heap m) (X : (hd.heap_39 w.params).In h₀) (N : News h₀ L s.heap led) (T : Top hd.view_39 (looseW hd.view_39 [Str.ofString "fraction", Str.ofString "direction"]) mean mg mb h₀) (hk : cs.kind = .function)
    (C : GivesS w mean mg mb n f S R news vs Out) (src : SrcA S R oS oR) (hl : ∀ p ∈ (S, oS) :: (R, oR) :: nw, p ∈ led) (hS : ∀ p ∈ nw, p.1 ≠ S) (hR : ∀ p ∈ nw, p.1 ≠ R) (hn : ∀ p ∈ news, p ∈ nw) (hd : dp + n < recursionLimit) (hu : un + 8 * n < cLine)
    (ret : ∀ r tl oS' oR' h' tk', Fr h₀ L h' m → News h₀ L h' ((S, oS') :: (R, oR') :: (tl ++ nw)) → SrcA S R oS' oR' → Ord ((S, oS) :: (R, oR) :: nw) tl → Says Out tl r → Q r { s with heap := h', toks := tk' }) :
    wpAny (model PySem.Challenge.rw_on0222_01.row.prog w) (ktrTop dp un gd cn cs L a ccd cl outer) (call (.ref f) vs) Q E s := by
  unfold GivesS at C
  exact C _ _ _ _ _ _ _ _ _ _ _ _ _ _ _ _ _ _ _ _ B F X (cb_drop N hl) T hk src hS hR hn hd hu ret
/-- a ledger less the source and its row -/
def Cut (S R : Addr) (oS oR : Obj) (led nw : Led) : Prop := ∀ p ∈ (S, oS) :: (R, oR) :: nw, p ∈ led
theorem Cut.here {S R : Addr} {oS oR : Obj} {nw : Led} : Cut S R oS oR ((S, oS) :: (R, oR) :: nw) nw := fun _ h => h
theorem Cut.skip {S R : Addr} {oS oR : Obj} {led nw : Led} {e : Addr × Obj} (h : Cut S R oS oR led nw) : Cut S R oS oR (e :: led) (e :: nw) := fun p hp => by
  rcases List.mem_cons.mp hp with rfl | hp
  · exact .tail _ (h _ (.head _))
  rcases List.mem_cons.mp hp with rfl | hp
  · exact .tail _ (h _ (.tail _ (.head _)))
  rcases List.mem_cons.mp hp with rfl | hp
  · exact .head _
  · exact .tail _ (h _ (.tail _ (.tail _ hp)))
theorem Cut.app {S R : Addr} {oS oR : Obj} {led nw t : Led} (h : Cut S R oS oR led nw) : Cut S R oS oR (t ++ led) (t ++ nw) := fun p hp => by
  rcases List.mem_cons.mp hp with rfl | hp
  · exact List.mem_append.mpr (.inr (h _ (.head _)))
  rcases List.mem_cons.mp hp with rfl | hp
  · exact List.mem_append.mpr (.inr (h _ (.tail _ (.head _))))
  rcases List.mem_append.mp hp with hp | hp
  · exact List.mem_append.mpr (.inl hp)
  · exact List.mem_append.mpr (.inr (h _ (.tail _ (.tail _ hp))))
theorem at_some {vs : List Value} {k : Int} (h0 : 0 ≤ k) (h1 : k < (vs.length : Int)) : ∃ v, At vs k v ∧ v ∈ vs := by
  have h : k.toNat < vs.length := by omega
  exact ⟨vs[k.toNat], ⟨k.toNat, by omega, List.getElem?_eq_getElem h⟩, List.getElem_mem h⟩
theorem reg14 : True := by
  k_with "call ref" => (k_here; k_dflt (refine' GivesS.use (by k_asm) (by k_asm) (by k_asm) (by k_asm) (by k_asm) (by first | exact rfl | assumption) (ct_take (by assumption) (by assumption)) (by assumption) (by kd_subs) (by assumption) (by assumption) (by kd_subs) (by k_extra "my room") (by k_extra "my units") ?_); intro r9 t9 oS9 oR9 h9 tk9 F9 N9 src9 O9 D9; (try k_dflt (k_extra "my take")); (try k_sweep); (try dsimp only); (try k_fold))
  trivial
set_option maxRecDepth 100000 in
set_option maxHeartbeats 4000000 in
theorem ct_one {w : World} {mean : ExcName → Option Value} {mg mb : Str → Option Value} {S R tA : Addr} {tv : List Value} {tn : Nat} (h1 : 0 < (tv.length : Int)) (h2 : (tv.length : Int) < 60) :
    GivesS w mean mg mb 16 156 S R [(tA, W.listOf tv.toArray tn)] [.ref S, .ref tA] (fun _ r => r ∈ tv) := by
  unfold GivesS
  k_fill
  have hM := kdMark
  have htl : LenOk tv.length := by unfold LenOk; omega
  have ht100 : (tv.length : Int) < 100 := by omega
  intro dp un gd cn cs a ccd cl outer A₀ base h₀ L m s nw oS oR Q E B F X N T hk hsrc hS hR hn hd hu hret
  have hmt := hn _ (.head _)
  refine wpAny_call ?_
  k_dflt ktr_enter
  k_with "my take" => (obtain ⟨kk, tt, e9, p9, q9⟩ := D9; subst e9; obtain ⟨vx, hvx, hxm⟩ := at_some (vs := tv) p9 q9)
  k_steps
  exact hret _ _ _ _ _ _ (by assumption) (by assumption) (by assumption) (by assumption) hxm
theorem use_one {w : World} {mean : ExcName → Option Value} {mg mb : Str → Option Value} {S R tA : Addr} {tv : List Value} {tn : Nat} {dp un : Nat} {gd : Option (List Code)} {cn : Str} {cs : Scope} {a : Addr} {ccd : Value} {cl : List (Str × Addr)} {outer : List Env} {A₀ : Around} {base h₀ : Heap} {L : Addr} {m : Str → Option Value} {s : Shared} {nw led : Led} {oS oR : Obj}
    {Q E : Value → Shared → Prop} (B : Below A₀ base outer h₀) (F : Fr h₀ L s.heap m) (X : (hd.heap_39 w.params).In h₀) (N : News h₀ L s.heap led) (T : Top hd.view_39 (looseW hd.view_39 [Str.ofString "fraction", Str.ofString "direction"]) mean mg mb h₀) (hk : cs.kind = .function)
    (src : SrcA S R oS oR) (hl : Cut S R oS oR led nw) (hS : ∀ p ∈ nw, p.1 ≠ S) (hR : ∀ p ∈ nw, p.1 ≠ R) (hm : (tA, W.listOf tv.toArray tn) ∈ nw) (h1 : 0 < (tv.length : Int)) (h2 : (tv.length : Int) < 60) (hd : dp + 16 < recursionLimit) (hu : un + 8 * 16 < cLine)
    (ret : ∀ r tl oS' oR' h' tk', Fr h₀ L h' m → News h₀ L h' ((S, oS') :: (R, oR') :: (tl ++ nw)) → SrcA S R oS' oR' → Ord ((S, oS) :: (R, oR) :: nw) tl → r ∈ tv → Q r { s with heap := h', toks := tk' }) :
    wpAny (model PySem.Challenge.rw_on0222_01.row.prog w) (ktrTop dp un gd cn cs L a ccd cl outer) (call (.ref 156) [.ref S, .ref tA]) Q E s :=
  GivesS.use B F X N T hk (ct_one h1 h2) src hl hS hR (List.forall_mem_cons.mpr ⟨hm, List.forall_mem_nil _⟩) hd hu ret
end
section
theorem gendS {h₀ h' : Heap} {L : Addr} {m : Str → Option Value} {S R : Addr} {oS oR oS' oR' : Obj} {nw l tl : Led} {s : Shared} {Q : Value → Shared → Prop} {Out : Led → Value → Prop} {r : Value} {tk' : Nat}
    (hret : ∀ r tl oS' oR' h' tk', Fr h₀ L h' m → News h₀ L h' ((S, oS') :: (R, oR') :: (tl ++ nw)) → SrcA S R oS' oR' → Ord ((S, oS) :: (R, oR) :: nw) tl → Says Out tl r → Q r { s with heap := h', toks := tk' })
    (F : Fr h₀ L h' m) (N : News h₀ L h' ((S, oS') :: (R, oR') :: l)) (sp : Split nw l tl) (src : SrcA S R oS' oR') (ho : Ord ((S, oS) :: (R, oR) :: nw) tl) (out : Says Out tl r) : Q r { s with heap := h', toks := tk' } :=
  hret r tl oS' oR' h' tk' F (cb_drop N fun p hp => by
    rcases List.mem_cons.mp hp with rfl | hp
    · exact .head _
    rcases List.mem_cons.mp hp with rfl | hp
    · exact .tail _ (.head _)
    · exact .tail _ (.tail _ (sp p (List.mem_append.mpr (List.mem_append.mp hp).symm)))) src ho out
theorem menu_pt {l : Led} {r : Value} (a : Int) (b : Nat) (c : Int) (d : Nat) (h : DatIn l r (.tuple [.tuple [.int a, .int (Int.ofNat b)], .tuple [.int c, .int (Int.ofNat d)]]))
    (hb : b ≠ 0 ∧ d ≠ 0 ∧ a.natAbs.Coprime b ∧ c.natAbs.Coprime d) (hs : a.natAbs < 2 ^ 3 ∧ b < 2 ^ 3 ∧ c.natAbs < 2 ^ 3 ∧ d < 2 ^ 3) : ∃ p, DatIn l r (pd p) ∧ Bp 3 p :=
  ⟨(⟨a, b, hb.1, hb.2.2.1⟩, ⟨c, d, hb.2.1, hb.2.2.2⟩), h, ⟨⟨Bits.of hs.1, Bits.of (by simpa using hs.2.1)⟩, ⟨Bits.of hs.2.2.1, Bits.of (by simpa using hs.2.2.2)⟩⟩⟩
theorem dall_mem {n : Led} : ∀ {vs : List Value} {ds : List Dat} {v : Value}, DatAll n vs ds → v ∈ vs → ∃ d ∈ ds, DatIn n v d
  | _, _, _, .cons h r, hv => by
    rcases List.mem_cons.mp hv with rfl | hv
    · exact ⟨_, .head _, h⟩
    · obtain ⟨d, hd, k⟩ := dall_mem r hv
      exact ⟨d, .tail _ hd, k⟩
theorem nil_base {l : Led} {p : Addr × Obj} (h : p ∈ l ++ []) (r : Led) : p ∈ l ++ r := List.mem_append.mpr (.inl (List.append_nil l ▸ h))
theorem reg15 : True := by
  k_with_none
  k_with "kcj_q" => first
    | exact List.mem_cons_self
    | (refine List.mem_cons_of_mem _ ?_; k_extra "kcj_q")
    | (refine List.mem_append.mpr (Or.inr ?_); k_extra "kcj_q")
    | (refine List.mem_append.mpr (Or.inl ?_); k_extra "kcj_q")
    | assumption
    | exact sub_use (by assumption) (by assumption)
  k_with "kd_suf" => first
    | with_reducible exact fun _ h => h
    | (refine sub_cons ?_; k_extra "kd_suf")
    | (refine sub_appR ?_; k_extra "kd_suf")
  k_with "kd_subs" => first
    | k_extra "kd_suf"
    | exact List.forall_mem_nil _
    | assumption
    | (refine List.forall_mem_cons.mpr ⟨?_, ?_⟩; (focus k_extra "kcj_q"); kd_subs)
    | (refine List.forall_mem_append.mpr ⟨?_, ?_⟩; (focus kd_subs); kd_subs)
    | (refine sub_cons ?_; kd_subs)
    | (refine sub_appR ?_; kd_subs)
    | (refine sub_appL ?_; kd_subs)
  k_with "ktn_lt" => first | assumption | exact allLt_of (by assumption) | exact alt1 (by assumption) | exact alt2 (by assumption) | exact alt3 (by assumption) | exact alt4 (by assumption) | exact alt5 (by assumption) | exact alt6 (by assumption)
  k_with "ktn_ord" => first
    | exact Ord.nil
    | assumption
    | (refine Ord.app ?_ ?_ <;> ktn_ord)
    | (refine Ord.lt (by ktn_lt) ?_ ?_; (focus kcj_in); ktn_ord)
    | (refine Ord.le (by ktn_lt) ?_ (by omega) ?_; (focus kcj_in); ktn_ord)
    | (refine Ord.sub (by assumption) ?_; kcj_in)
  k_with "ktr_rel" => first | assumption | (refine DatIn.mono ?_ (by assumption); kd_subs)
  k_with "ktr_enter" => first
    | (refine' code_def (by k_asm) (by k_asm) (by k_asm) (by k_asm) (by k_asm) rfl rfl (by first | assumption | exact rfl) (by k_is) (by k_is) (by k_extra "my room") (by first | exact BindsTo.of_eq rfl | exact binds_K (by k_in) rfl (by k_is) rfl rfl rfl | fail "no rule for these arguments") (locs rfl) ?_ rfl rfl rfl (by decide); k_whole; intro g' L' h' FG' F' N' B' X' T'; (try dsimp only); (try k_fold))
    | (refine' code_defC (by k_asm) (by k_asm) (by k_asm) (by k_asm) (by k_asm) rfl rfl (by first | assumption | exact rfl) (by k_is) (by k_is) (by k_extra "my room") (by first | exact BindsTo.of_eq rfl | exact binds_K (by k_in) rfl (by k_is) rfl rfl rfl | fail "no rule for these arguments") rfl (by decide +kernel) ?_ rfl rfl rfl; k_whole; intro g' L' h' tk' cells' FG' F' N' Y' B' X' T' l1; (try k_lt l1); k_cells Y'; (try simp only [List.cons_append, List.nil_append] at N'); (try dsimp only); (try k_fold))
  k_with "my gend" => (refine' gend (by assumption) (by assumption) (by assumption) (by repeat' (first | exact Split.base0 | refine' Split.skip ?_ | refine' Split.appO (by assumption) ?_ | refine' Split.own ?_)) (by ktn_ord) ?_)
  k_with "my end0" => (refine' gend0 (by assumption) (by assumption) (by assumption) (by kd_subs) ?_; (try unfold Says))
  k_with "my dats" => first | exact DatAll.nil | assumption | (refine DatAll.mono ?_ (by assumption); kd_subs) | (refine DatAll.cons ?_ ?_; (focus k_extra "my dat"); k_extra "my dats")
  k_with "my dat" => first
    | exact DatIn.int _ _
    | assumption
    | (refine DatIn.mono ?_ (by assumption); kd_subs)
    | exact DatIn.tuple (by k_extra "kcj_q") (by k_extra "my dats")
    | exact DatIn.list (by k_extra "kcj_q") (by k_extra "my dats")
  k_with "my rel" => (refine DatIn.mono ?_ (by assumption); kd_subs)
  k_with "my room" => first | exact room1 (by assumption) (by exact rfl) | exact room0 (by assumption) (by exact rfl) | ktr_room
  k_with "my units" => first | exact units1 (by assumption) (by exact rfl) | exact units0 (by assumption) (by exact rfl) | ktr_units
  k_with "my ne" => first | exact ne_gtR (by assumption) (by k_extra "kcj_q") | exact ne_ltR (by assumption) (by k_extra "kcj_q") | k_ne
  k_with "newTuple" => (k_here; k_dflt (refine' kup_newTuple (by k_asm) (by k_asm) ?_ (by kmk_size)); intro D' h' F' N' l1; (try k_sweep))
  k_with "newList" => (k_here; k_dflt (refine' newList_K (by k_asm) (by k_asm) ?_ (by size_fits)); intro l' h' F' N' l1; (try k_sweep))
  k_with "my evv" => first
    | ((with_reducible show Ev _ _ _ _ _ (PySem.Expr.Name _ _) _); exact ev_name (by k_asm) (by exact rfl) (by exact rfl) (by exact rfl) (by decide))
    | ((with_reducible show Ev _ _ _ _ _ (PySem.Expr.Subscript _ (PySem.Expr.Constant _ _ _) _) _); exact ev_item (by k_asm) (by k_extra "my evv") (by k_extra "kcj_q") (by decide) (by exact rfl) (by exact rfl))
  k_with "my ev" => first
    | ((with_reducible show Ev _ _ _ _ _ (PySem.Expr.Constant _ _ _) _); exact ev_int)
    | ((with_reducible show Ev _ _ _ _ _ (PySem.Expr.Name _ _) _); exact ev_nameI (by k_asm) (by exact rfl) (by exact rfl) (by exact rfl) (by decide))
    | ((with_reducible show Ev _ _ _ _ _ (PySem.Expr.Subscript _ (PySem.Expr.Constant _ _ _) _) _); exact ev_itemI (by k_asm) (by k_extra "my evv") (by k_extra "kcj_q") (by decide) (by exact rfl) (by exact rfl))
    | ((with_reducible show Ev _ _ _ _ _ (PySem.Expr.BinOp _ PySem.Operator.Mult _ _) _); exact ev_mul (by k_extra "my ev") (by k_extra "my ev") (by mul_fits))
    | ((with_reducible show Ev _ _ _ _ _ (PySem.Expr.BinOp _ PySem.Operator.Add _ _) _); exact ev_add (by k_extra "my ev") (by k_extra "my ev"))
    | ((with_reducible show Ev _ _ _ _ _ (PySem.Expr.BinOp _ PySem.Operator.Sub _ _) _); exact ev_sub (by k_extra "my ev") (by k_extra "my ev"))
    | ((with_reducible show Ev _ _ _ _ _ (PySem.Expr.UnaryOp PySem.UnaryOp.USub _ _) _); exact ev_neg (by k_extra "my ev"))
  k_with "eval BinOp" => (k_here; k_dflt (refine' ev_runI (by k_extra "my ev") ?_); intro t' tk'; (try dsimp only))
  k_with "eval UnaryOp" => (k_here; (with_reducible show wpAny _ _ (eval (PySem.Expr.UnaryOp _ (PySem.Expr.Subscript _ _ _) _) _) _ _ _); k_dflt (refine' ev_runI (by k_extra "my ev") ?_); intro t' tk'; (try dsimp only))
  k_with "eval Subscript" => (k_here; k_dflt (refine' ev_runV (by k_extra "my evv") ?_); intro tk'; (try dsimp only))
  k_with "my bit" => first | assumption | exact Bd.nu (by assumption) | exact Bd.de (by assumption) | (k_dflt (first | exact bp_nx (by assumption) | exact bp_dx (by assumption) | exact bp_ny (by assumption) | exact bp_dy (by assumption)))
  k_with "my lit" => first
    | ((with_reducible show LitD (PySem.Expr.Constant (PySem.Const.int _) _ _) _); exact lit_int)
    | ((with_reducible show LitD (PySem.Expr.Constant (PySem.Const.str _) _ _) _); exact lit_str)
    | ((with_reducible show LitD (PySem.Expr.UnaryOp PySem.UnaryOp.USub (PySem.Expr.Constant (PySem.Const.int _) _ _) _) _); exact lit_neg)
    | ((with_reducible show LitD (PySem.Expr.Tuple _ _ _) _); exact lit_tuple (by k_extra "my lits") (by exact Nat.le_of_ble_eq_true rfl))
    | ((with_reducible show LitD (PySem.Expr.List _ _) _); exact lit_list (by k_extra "my lits") (by exact Nat.le_of_ble_eq_true rfl))
  k_with "my lits" => first
    | ((with_reducible show LitA [] _); exact litA_nil)
    | ((with_reducible show LitA (_ :: _) _); exact litA_cons (by k_extra "my lit") (by k_extra "my lits"))
  k_with "my dvs" => first
    | ((with_reducible show DvA _ _ _ _ _ _ _ _ [] _); exact dvA_nil)
    | ((with_reducible show DvA _ _ _ _ _ _ _ _ (_ :: _) _); exact dvA_cons (by k_extra "my dv") (by k_extra "my dvs"))
  k_with "my dv" => first
    | ((with_reducible show Dv _ _ _ _ _ _ _ _ (PySem.Expr.Name _ _) _); exact dv_name (by exact rfl) (by k_extra "my dat") (by exact rfl) (by exact rfl) (by decide))
    | ((with_reducible show Dv _ _ _ _ _ _ _ _ (PySem.Expr.Constant _ _ _) _); exact dv_lit (by k_extra "my lit"))
    | ((with_reducible show Dv _ _ _ _ _ _ _ _ (PySem.Expr.Subscript _ (PySem.Expr.Constant _ _ _) _) _); first | exact dv_item (by k_extra "my dv") (by decide) (by exact rfl) (by exact rfl) | exact dv_item0 (by k_extra "my dv"))
    | ((with_reducible show Dv _ _ _ _ _ _ _ _ (PySem.Expr.Tuple _ _ _) _); first | exact dv_lit (by k_extra "my lit") | exact dv_tuple (by k_extra "my dvs") (by exact Nat.le_of_ble_eq_true rfl))
    | ((with_reducible show Dv _ _ _ _ _ _ _ _ (PySem.Expr.List _ _) _); exact dv_lit (by k_extra "my lit"))
    | ((with_reducible show Dv _ _ _ _ _ _ _ _ (PySem.Expr.BinOp _ PySem.Operator.Mult _ _) _); exact dv_mul (by k_extra "my dv") (by k_extra "my dv") (by mul_fits))
    | ((with_reducible show Dv _ _ _ _ _ _ _ _ (PySem.Expr.BinOp _ PySem.Operator.Add _ _) _); exact dv_add (by k_extra "my dv") (by k_extra "my dv"))
    | ((with_reducible show Dv _ _ _ _ _ _ _ _ (PySem.Expr.BinOp _ PySem.Operator.Sub _ _) _); exact dv_sub (by k_extra "my dv") (by k_extra "my dv"))
    | ((with_reducible show Dv _ _ _ _ _ _ _ _ (PySem.Expr.UnaryOp PySem.UnaryOp.USub _ _) _); exact dv_neg (by k_extra "my dv"))
    | ((with_reducible show Dv _ _ _ _ _ _ _ _ (PySem.Expr.Call _ _ _ _) _); exact dv_call (by k_asm) (by k_asm) (by k_asm) (by exact rfl) (by k_extra "my fn") (by k_is) (by exact rfl) (by k_extra "my dv") (by k_extra "my dvs") (by exact rfl) (by k_extra "my con") (by k_extra "my room") (by k_extra "my units"))
  k_with "eval Call" => (k_here; k_dflt (refine Wq.out ?_; refine' dv_runB (by assumption) (by k_asm) (by k_asm) (by kd_subs) (by kd_subs) (by k_extra "my dv") ?_); intro v9 t9 h9 tk9 F9 N9 O9 D9; (have hB9 := baseOf (by assumption) D9); (try k_dflt (k_extra "my got")); (try k_sweep))
  k_with "eval Tuple" => (k_here; k_dflt (refine Wq.out ?_; refine' dv_runB (by assumption) (by k_asm) (by k_asm) (by kd_subs) (by kd_subs) (by k_extra "my dv") ?_); intro v9 t9 h9 tk9 F9 N9 O9 D9; (have hB9 := baseOf (by assumption) D9); (try k_dflt (k_extra "my got")); (try k_sweep))
  k_with "eval List" => (k_here; k_dflt (refine Wq.out ?_; refine' dv_runB (by assumption) (by k_asm) (by k_asm) (by kd_subs) (by kd_subs) (by k_extra "my dv") ?_); intro v9 t9 h9 tk9 F9 N9 O9 D9; (have hB9 := baseOf (by assumption) D9); (try k_dflt (k_extra "my got")); (try k_sweep))
  k_with "exec Assign" => (k_here; (with_reducible show wpAny _ _ (exec (PySem.Stmt.Assign [PySem.Expr.Tuple [PySem.Expr.Name _ _, PySem.Expr.Name _ _] _ _] _ _) _) _ _ _); k_dflt (refine Wq.out ?_; refine' dv_pair (by assumption) (by k_asm) (by k_asm) (by kd_subs) (by kd_subs) (by k_extra "my dv") (by with_unfolding_all rfl) (by exact rfl) (by exact rfl) (by exact rfl) (by exact rfl) (by exact rfl) ?_); intro vx9 vy9 t9 h9 tk9 F9 N9 O9 D9 E9; (have hB9 := baseOf (by assumption) D9); (try k_sweep))
  k_with "exec Return some" => (k_here; k_dflt (refine Wq.out ?_; refine' dv_ret (by assumption) (by k_asm) (by k_asm) (by kd_subs) (by kd_subs) (by k_extra "my dv") ?_); intro v9 t9 h9 tk9 F9 N9 O9 D9; (try k_sweep))
  k_with "exec Assign" => (k_here; (with_reducible show wpAny _ _ (exec (PySem.Stmt.Assign [PySem.Expr.Name _ _] _ _) _) _ _ _); k_dflt (refine Wq.out ?_; refine' dv_set (by assumption) (by k_asm) (by k_asm) (by kd_subs) (by kd_subs) (by k_extra "my dv") (by exact rfl) (by exact rfl) (by exact rfl) ?_); intro v9 t9 h9 tk9 F9 N9 O9 D9; (have hB9 := baseOf (by assumption) D9); (try k_dflt (k_extra "my got")); (try k_sweep))
  k_with "my fn" => first
    | ((with_reducible show FnAt _ _ _ _ _ (compEnvC _ _ _ _) _ _); exact fnC (by k_asm) (by k_asm) (by k_is) (by exact rfl) (by exact rfl) (by exact rfl) (by decide))
    | exact fnX (by k_asm) (by k_asm) (by exact rfl) (by k_is) (by exact rfl) (by decide)
  k_with "subscriptTail Name Slice ref ref" => (k_here; (with_reducible show wpAny _ _ (subscriptTail _ (PySem.Expr.Slice none none (some _) _) (Value.ref _) (Value.ref _)) _ _ _); k_dflt (refine' tup_rev (by k_asm) (by k_asm) (by k_mem) rfl ?_ (by with_unfolding_all rfl) (by kmk_pure) (by first | exact Nat.le_of_ble_eq_true rfl | exact LenOk.le (by assumption))); intro D' h' F' N' l1; (try k_sweep))
  k_with "subscriptTail Name Slice ref ref" => (k_here; (with_reducible show wpAny _ _ (subscriptTail _ (PySem.Expr.Slice (some _) none none _) (Value.ref _) (Value.ref _)) _ _ _); k_dflt (refine' tup_tail (by k_asm) (by k_asm) (by k_mem) ?_ (by with_unfolding_all rfl) (by kmk_pure) (by first | exact Nat.le_of_ble_eq_true rfl | exact LenOk.le (by assumption))); intro D' h' F' N' l1; (try k_sweep))
  k_with "exec For" => (k_here; (rename Fr _ _ _ _ => lF'); (with_unfolding_all refine' For_turns lF' ?_; k_whole))
  k_with "exec For Name Subscript cons nil" => (k_here; (rename Fr _ _ _ _ => lF'); (with_unfolding_all refine' For_turns lF' ?_; k_whole))
  k_with "exec For Tuple Call cons nil" => (k_here; (rename Fr _ _ _ _ => lF'); (with_unfolding_all refine' For_turns lF' ?_; k_whole))
  k_with "exec For Name Call cons nil" => (k_here; (rename Fr _ _ _ _ => lF'); (with_unfolding_all refine' For_turns lF' ?_; k_whole))
  k_with "exec For Name Call cons cons" => (k_here; (rename Fr _ _ _ _ => lF'); (with_unfolding_all refine' For_turns lF' ?_; k_whole))
  k_with "pyIter ref" => (k_here; (with_reducible show wpAny _ _ (pyIter (Value.ref _)) (fun it s₂ => TurnsAt _ _ _ _ _ _ _ _ _ it s₂) _ _); k_dflt (refine' for_tup (by with_unfolding_all rfl) (by k_asm) (by k_asm) (by k_mem) rfl rfl ?_); (try dsimp only [List.map_cons, List.map_nil]))
  k_with "PRest" => first
    | (refine PRest.succ ?_; intro t' own' h' tk' F' N'; (try simp only [bindB] at F'); (try k_sweep); (try k_fold))
    | (refine PRest.zero ?_; intro h' tk' F' N'; (try k_sweep))
  k_with "TPost" => first | (dsimp only [TPost]) | (refine TPost.ret ?_; (try dsimp only)) | (refine TPost.next ?_) | (refine TPost.cont ?_)
  k_with "TEnd" => (refine TEnd.intro (by k_asm) (by k_asm) (by kd_subs) ?_)
  k_with "my bits" => first | k_extra "my bit" | exact Bits.mul (by k_extra "my bits") (by k_extra "my bits") | exact Bits.add (by k_extra "my bits") (by k_extra "my bits") | exact Bits.sub (by k_extra "my bits") (by k_extra "my bits") | exact Bits.neg (by k_extra "my bits") | exact Bits.lit (by decide)
  k_with "my bitsle" => exact Bits.mono (by k_extra "my bits") (by decide)
  k_with "mul_fits" => first | (refine Bits.ok (n := 8000) (m := 8000) ?_ ?_ (by decide) <;> assumption) | (refine Bits.ok (by k_extra "my bits") (by k_extra "my bits") (by decide))
  k_with "call type:zip" => (k_here; (with_reducible show wpAny _ _ (call (Value.type _) [Value.ref _, Value.ref _, Value.ref _]) (fun xv s₁ => wpAny _ _ (pyIter xv) (fun it s₂ => TurnsAt _ _ _ _ _ _ _ _ _ it s₂) _ s₁) _ _); k_dflt (refine' for_zip3 (by with_unfolding_all rfl) (by k_asm) (by k_asm) (by k_mem) (by k_mem) (by k_mem) (by exact rfl) (by exact rfl) rfl rfl rfl rfl ?_); (try dsimp only [trip3]))
  k_with "call type:tuple" => (k_here; (with_reducible show wpAny _ _ (call (Value.type _) [Value.ref _]) _ _ _); k_dflt (refine' call_tuple_tup (News.isTup (by k_asm) (by k_mem)) ?_))
  k_with "eval ListComp" => (k_here; (rename Fr _ _ _ _ => lF'); k_dflt (refine' comp_eval lF' rfl (by decide) rfl (by decide) ?_ (by intro _; rfl)))
  k_with "exec Assign cons ListComp" => (k_here; (rename Fr _ _ _ _ => lF'); k_dflt (refine' comp_assign lF' rfl rfl (by decide) rfl (by decide) rfl rfl ?_ (by intro _; rfl)))
  k_with "k_all" => first
    | exact List.forall_mem_nil _
    | assumption
    | (refine' List.forall_mem_cons.mpr ⟨?_, ?_⟩; (focus first | k_extra "my ne" | assumption | exact ne_gt (by ktn_lt) (by k_extra "kcj_q") | exact ne_lt (by ktn_lt) (by k_extra "kcj_q")); k_all)
    | (refine' List.forall_mem_append.mpr ⟨?_, ?_⟩; (focus k_all); k_all)
    | exact off_gt (by assumption) (by k_extra "kcj_q")
    | exact off_leS (by assumption) (by omega)
    | exact off_le (by ktn_lt) (by kd_subs) (by omega)
  k_with "k_upd" => first | exact Upd.head (by k_all) | ((with_reducible show Upd _ _ _ (_ :: _) _); exact Upd.tail (by k_extra "my ne") (by k_upd)) | (refine' upd_app ?_ ?_; (focus k_all); k_upd)
  k_with "k_updF" => first | exact UpdF.head (by k_all) | ((with_reducible show UpdF _ _ (_ :: _) _); exact UpdF.tail (by k_extra "my ne") (by k_updF)) | (refine' updF_app ?_ ?_; (focus k_all); k_updF)
  k_with "k_mem" => k_extra "kcj_q"
  k_with "pyIter ref" => (k_here; (with_reducible show wpAny _ _ (pyIter (Value.ref _)) (fun it s₂ => CompAt _ _ _ _ _ _ _ _ _ _ _ _ _ it s₂) _ _); k_dflt (refine' comp_range (by with_unfolding_all rfl) (by assumption) (by first | rfl | decide | exact small_of (by assumption)) (by first | rfl | exact Int.toNat_of_nonneg (by decide) | exact size_of _) (by k_asm) (by k_asm) rfl rfl (by first | decide | exact Nat.le_of_ble_eq_true rfl | exact LenOk.le (by assumption)) ?_); intro I' s9 hs9; (obtain ⟨h9, e9⟩ := hs9); subst e9; (try simp only [List.range, List.range.loop, List.map_cons, List.map_nil]); (try k_sweep))
  k_with "pyIter ref" => (k_here; (with_reducible show wpAny _ _ (pyIter (Value.ref _)) (fun it s₂ => CompAt _ _ _ _ _ _ _ _ _ _ _ _ _ it s₂) _ _); k_dflt (refine' comp_list (by with_unfolding_all rfl) (by k_asm) (by k_asm) (by k_mem) rfl rfl (by first | exact Nat.le_of_ble_eq_true rfl | exact LenOk.le (by assumption)) ?_); intro I' s9 hs9; (obtain ⟨h9, e9⟩ := hs9); subst e9; (try simp only [List.map_cons, List.map_nil]); (try k_sweep))
  k_with "pyIter ref" => (k_here; (with_reducible show wpAny _ _ (pyIter (Value.ref _)) (fun it s₂ => CompAt _ _ _ _ _ _ _ _ _ _ _ _ _ it s₂) _ _); k_dflt (refine' comp_tup (by with_unfolding_all rfl) (by k_asm) (by k_asm) (by k_mem) rfl rfl (by first | exact Nat.le_of_ble_eq_true rfl | exact LenOk.le (by assumption)) ?_); intro I' s9 hs9; (obtain ⟨h9, e9⟩ := hs9); subst e9; (try simp only [List.map_cons, List.map_nil]); (try k_sweep))
  k_with "call type:zip" => (k_here; (with_reducible show wpAny _ _ (call (Value.type _) [Value.ref _, Value.ref _, Value.ref _]) (fun xv s₁ => wpAny _ _ (pyIter xv) (fun it s₂ => CompAt _ _ _ _ _ _ _ _ _ _ _ _ _ it s₂) _ s₁) _ _); k_dflt (refine' comp_zip3 (by with_unfolding_all rfl) (by k_asm) (by k_asm) (by k_mem) (by k_mem) (by k_mem) (by exact rfl) (by exact rfl) (by exact Nat.le_of_ble_eq_true rfl) rfl rfl rfl rfl (by decide) (by decide) (by decide) ?_); intro I' s9 hs9; (obtain ⟨h9, e9⟩ := hs9); subst e9; (try dsimp only [trip3]); (try k_sweep))
  k_with "CRest" => first
    | (refine CRest.zero ?_)
    | (refine CRest.plain ?_; intro t' own' C' oC' D' m' h' tk' E' hC' hx' F' N' off' wo'; (first | (obtain ⟨hx1, hx2, hx3, _⟩ := hx'; (try dsimp only at hx1 hx2 hx3)) | (obtain ⟨hx1, _⟩ := hx'; (try dsimp only at hx1))); (try k_sweep); (try k_fold))
    | (refine CRest.test ?_; intro t' own' C' oC' D' m' h' tk' E' hC' hx' F' N' off' wo'; (first | (obtain ⟨hx1, hx2, hx3, _⟩ := hx'; (try dsimp only at hx1 hx2 hx3)) | (obtain ⟨hx1, _⟩ := hx'; (try dsimp only at hx1))); (try k_sweep); (try k_fold))
  k_with "my coff" => first
    | exact coff_nil
    | assumption
    | (with_reducible refine' coff_e (by assumption) (by k_extra "kcj_q") ?_; k_extra "my coff")
    | (with_reducible refine' coff_consW (by assumption) (by ktn_lt) (by k_extra "kcj_q") (by k_extra "kcj_q") (by kd_subs) ?_; k_extra "my coff")
    | (with_reducible refine' coff_app ?_ ?_; (focus k_extra "my coff"); k_extra "my coff")
    | (with_reducible refine' coff_sub (by assumption) (by kd_subs))
    | (with_reducible refine' coff_ordW (by assumption) (by assumption) (by k_extra "kcj_q") (by k_extra "kcj_q") (by kd_subs))
  k_with "CEnd" => (k_dflt (refine' cend (by k_asm) (by k_asm) (by k_extra "kcj_q") (by k_extra "kcj_q") (by kd_subs) (by repeat' (first | exact CS.base | refine' CS.skip ?_)) (by k_extra "my coff") ?_); (try simp only [List.nil_append, List.cons_append]))
  k_with "FinC" => (unfold FinC; intro D' h' tk' F' N' o1' l1'; (try dsimp only [PyProof.Rows.LCg.lst, List.length_cons, List.length_nil] at N'); (try simp only [AllLt, and_true] at l1'); (try dsimp only))
  k_with "FinS" => (unfold FinS; intro D' h' tk' F' N' o1' l1'; (try dsimp only [PyProof.Rows.LCg.lst, List.length_cons, List.length_nil] at N'); (try simp only [AllLt, and_true] at l1'); (try dsimp only))
  k_with "my sub" => (k_here; (with_reducible show wpAny _ _ (subscriptTail _ _ (Value.ref _) (Value.int _ _)) _ _ _); k_dflt (first
    | ((with_reducible show wpAny _ _ (subscriptTail _ _ (Value.ref _) (Value.int 0 _)) _ _ _); first | refine' item_tup0 (by k_asm) (by k_extra "kcj_q") ?_ (by with_unfolding_all rfl) | refine' item_tup0S (by k_asm) (by assumption) (by exact rfl) (by kd_subs) ?_ (by with_unfolding_all rfl))
    | (refine' item_tupS (by k_asm) (by assumption) (by exact rfl) (by kd_subs) (by decide) (by decide) (by exact rfl) (by exact rfl) ?_ (by with_unfolding_all rfl))
    | (refine' item_lstS (by k_asm) (by assumption) (by exact rfl) (by kd_subs) (by decide) (by decide) (by exact rfl) ?_ (by with_unfolding_all rfl))
    | (refine' item_lstNS (by k_asm) (by assumption) (by exact rfl) (by kd_subs) (by decide) (by decide) (by exact rfl) (by exact rfl) ?_ (by with_unfolding_all rfl))
    | (refine' item_lst (by k_asm) (by k_extra "kcj_q") (by decide) (by decide) (by exact rfl) ?_ (by with_unfolding_all rfl))
    | (refine' item_lstN (by k_asm) (by k_extra "kcj_q") (by decide) (by decide) (by exact rfl) (by exact rfl) ?_ (by with_unfolding_all rfl))))
  k_with "subscriptTail" => k_extra "my sub"
  k_with "subscriptTail Name" => k_extra "my sub"
  k_with "subscriptTail Subscript" => k_extra "my sub"
  k_with "subscriptTail Name Constant ref int" => k_extra "my sub"
  k_with "subscriptTail Name Name ref int" => k_extra "my sub"
  k_with "subscriptTail Name BinOp ref int" => k_extra "my sub"
  k_with "subscriptTail Name UnaryOp ref int" => k_extra "my sub"
  k_with "my sub" => (k_here; (with_reducible show wpAny _ _ (subscriptTail _ _ (Value.ref _) (Value.int _ _)) _ _ _); k_dflt (first
    | (refine' item_tupAt (by k_asm) (by k_extra "kcj_q") (by with_reducible assumption) (by assumption) ?_ (by with_unfolding_all rfl))
    | (refine' item_lstAt (by k_asm) (by k_extra "kcj_q") (by with_reducible assumption) (by assumption) ?_ (by with_unfolding_all rfl))))
  k_with "my sub" => (k_here; (with_reducible show wpAny _ _ (subscriptTail _ _ (Value.ref _) (Value.int (-1) _)) _ _ _); k_dflt (first
    | (refine' item_lstLast (by k_asm) (by k_extra "kcj_q") (by with_reducible assumption) ?_ (by with_unfolding_all rfl))
    | (refine' item_tupLast (by k_asm) (by k_extra "kcj_q") (by with_reducible assumption) ?_ (by with_unfolding_all rfl))))
  k_with "call builtin:len" => (k_here; (with_reducible show wpAny _ _ (call (Value.builtin "len") [Value.ref _]) _ _ _); k_dflt (first
    | (refine' len_tupL (by k_asm) (by k_extra "kcj_q") (by assumption) ?_)
    | (refine' len_lstL (by k_asm) (by k_extra "kcj_q") (by assumption) ?_)); intro t9 t8; (try dsimp only [List.length_cons, List.length_nil]); (try dsimp only))
  k_with "call type:tuple" => (k_here; (with_reducible show wpAny _ _ (call (Value.type _) [Value.ref _]) _ _ _); k_dflt (refine' tup_of_list (by k_asm) (by k_asm) (by k_extra "kcj_q") (by assumption) ?_); intro D' h' F' N' l1; (try k_sweep))
  k_with "call builtin:list.append" => (k_here; (with_reducible show wpAny _ _ (call (Value.builtin _) [Value.ref _, _]) _ _ _); k_dflt (refine' append_L (by k_asm) (by k_asm) (by first | refine' Upd.tail (by k_extra "my ne") (Upd.tail (by k_extra "my ne") (upd_app (by k_all) (Upd.head (by k_all)))) | k_upd) (by assumption) ?_); intro h' F' N'; (try k_sweep))
  k_with "compareOp NotEq ref ref" => (k_here; k_dflt (first
    | (refine' nil_ne_nil (by k_asm) (by k_extra "kcj_q") (by k_extra "kcj_q") (by k_extra "my units") ?_)
    | (refine' cons_ne_nil (by k_asm) (by k_extra "kcj_q") (by k_extra "kcj_q") (by assumption) (by k_extra "my units") ?_)))
  k_with "setItem ref int int" => (k_here; (with_reducible show wpAny _ _ (setItem (Value.ref _) (Value.int _ _) (Value.int _ _)) _ _ _); k_dflt (refine' set_lst (by k_asm) (by k_asm) (by decide) (by decide) (by first | exact Upd.tail (by first | k_extra "my ne" | assumption) (Upd.head (by k_all)) | k_upd) (by exact Nat.le_of_ble_eq_true rfl) ?_); intro h' F' N'; (try k_sweep))
  k_with "call builtin:list.pop" => (k_here; (with_reducible show wpAny _ _ (call (Value.builtin _) [Value.ref _, Value.int 0 _]) _ _ _); k_dflt (refine' pop0 (by k_asm) (by k_asm) (by first | exact Upd.tail (by k_extra "my ne") (Upd.tail (by first | k_extra "my ne" | assumption) (Upd.head (by k_all))) | k_upd) (by assumption) ?_); intro h' F' N'; (try k_sweep))
  k_with "call ref" => (k_here; (with_reducible show wpAny _ _ (call (Value.ref 156) _) _ _ _); refine stopW ?_)
  trivial
set_option maxRecDepth 100000 in
set_option maxHeartbeats 4000000 in
theorem ct_point {w : World} {mean : ExcName → Option Value} {mg mb : Str → Option Value} {S R : Addr} :
    GivesS w mean mg mb 18 163 S R [] [.ref S] (fun l r => ∃ p, DatIn l r (pd p) ∧ Bp 3 p) := by
  unfold GivesS
  k_fill
  have hM := kdMark
  have hB : BaseIs [] [] := ⟨⟩
  intro dp un gd cn cs a ccd cl outer A₀ base h₀ L m s nw oS oR Q E B F X N T hk hsrc hS hR hn hd hu hret
  refine wpAny_call ?_
  k_dflt ktr_enter
  k_with "my got" => (obtain ⟨lA, ln, lvs, e9, lm, ld⟩ := lst_open D9; subst e9)
  k_steps
  unfold StopW
  rename News _ _ _ _ => NL
  have hlen : (lvs.length : Int) = 5 := by rw [ld.length]; rfl
  k_dflt (refine' use_one (by k_asm) (by k_asm) (by k_asm) NL (by k_asm) (by exact rfl) hsrc (by exact Cut.app Cut.here) (List.forall_mem_append.mpr ⟨off_gt (by assumption) (.head _), hS⟩) (List.forall_mem_append.mpr ⟨off_gt (by assumption) (.tail _ (.head _)), hR⟩) (nil_base lm _) (by omega) (by omega) (by k_extra "my room") (by k_extra "my units") ?_)
  intro r8 t8 oS8 oR8 h8 tk8 F8 N8 src8 O8 D8
  k_steps
  refine gendS hret (by assumption) (by assumption) (Split.app (Split.app Split.base0)) (by assumption) (Ord.app (Ord.sub O8 (by kd_subs)) (by rw [List.append_nil]; assumption)) ?_
  obtain ⟨d, hd9, k9⟩ := dall_mem ld D8
  replace k9 : DatIn (t8 ++ (t9 ++ [])) r8 d := k9.mono fun p hp => List.mem_append.mpr (.inr hp)
  unfold Says
  simp only [List.mem_cons, List.not_mem_nil, or_false] at hd9
  rcases hd9 with rfl | rfl | rfl | rfl | rfl
  · exact menu_pt 0 1 0 1 k9 (by decide) (by decide)
  · exact menu_pt 0 1 0 1 k9 (by decide) (by decide)
  · exact menu_pt 1 2 (-3) 1 k9 (by decide) (by decide)
  · exact menu_pt 5 1 2 3 k9 (by decide) (by decide)
  · exact menu_pt (-7) 3 1 2 k9 (by decide) (by decide)
end
section
theorem blend_fits {x : Int} : IntMulOk x 48271 := IntMulOk.of_right (by decide)
theorem ite_fits {x : Int} {b : Prop} [Decidable b] : IntMulOk x (if b then 1 else 0) := by split <;> exact IntMulOk.of_right (by decide)
theorem kqdP_ints (si : List Int) : kqdP (.list (si.map Dat.int)) = PyData.list (si.map PyData.int) := by
  simp only [kqdP]
  congr 1
  induction si with
  | nil => rfl
  | cons x r ih => simp only [List.map_cons, kqdPs, kqdP, ih]
section
variable {prog : Program} {w : World} {A : Around} {E : Value → Shared → Prop} {s : Shared} {g : Heap} {L : Addr} {m : Str → Option Value} {news : Led} {Q : Value → Shared → Prop}
theorem script_ne {sc l : Addr} {si : List Int} {ws : List Addr} {n : Nat} (F : Fr g L s.heap m) (N : News g L s.heap news) (hr : Reads g (.ref sc) (PyData.list (si.map PyData.int)) ws) (hb : (l, W.listOf #[] n) ∈ news) (hu : A.units + 64 < cLine)
    (h : Q (.bool (decide (si ≠ []))) s) : wpAny (model prog w) A (compareOp .NotEq (.ref sc) (.ref l)) Q E s := by
  rw [← kqdP_ints] at hr
  have hk : kqdOk 9 (.list (si.map Dat.int)) = true := by
    simp only [kqdOk, List.all_eq_true, List.mem_map]
    rintro x ⟨i, _, rfl⟩
    rfl
  obtain ⟨bs, rb⟩ := kqd_in N 9 (DatIn.list (vs := []) hb DatAll.nil) (d := .list []) (by decide)
  refine ne_dataH (PyProof.Rows.Reads.keeps F.keep hr) rb (dat_shaped hk) (dat_shaped (d := .list []) (by decide)) hu ?_
  rw [dat_eqv hk (by decide) (si = []) (by simp)]
  have : (!decide (si = [])) = decide (si ≠ []) := by by_cases hp : si = [] <;> simp [hp]
  rw [this]
  exact h
theorem script_ne0 {sc l : Addr} {ws : List Addr} {n : Nat} (F : Fr g L s.heap m) (N : News g L s.heap news) (hr : Reads g (.ref sc) (PyData.list (([] : List Int).map PyData.int)) ws) (hb : (l, W.listOf #[] n) ∈ news) (hu : A.units + 64 < cLine)
    (h : Q (.bool false) s) : wpAny (model prog w) A (compareOp .NotEq (.ref sc) (.ref l)) Q E s := script_ne F N hr hb hu h
theorem script_ne1 {sc l : Addr} {x : Int} {r : List Int} {ws : List Addr} {n : Nat} (F : Fr g L s.heap m) (N : News g L s.heap news) (hr : Reads g (.ref sc) (PyData.list ((x :: r).map PyData.int)) ws) (hb : (l, W.listOf #[] n) ∈ news) (hu : A.units + 64 < cLine)
    (h : Q (.bool true) s) : wpAny (model prog w) A (compareOp .NotEq (.ref sc) (.ref l)) Q E s := script_ne F N hr hb hu (by simpa using h)
theorem script_eq {sc l : Addr} {si : List Int} {ws : List Addr} {n : Nat} (F : Fr g L s.heap m) (N : News g L s.heap news) (hr : Reads g (.ref sc) (PyData.list (si.map PyData.int)) ws) (hb : (l, W.listOf #[] n) ∈ news) (hu : A.units + 64 < cLine)
    (h : Q (.bool (decide (si = []))) s) : wpAny (model prog w) A (compareOp .Eq (.ref sc) (.ref l)) Q E s := by
  rw [← kqdP_ints] at hr
  have hk : kqdOk 9 (.list (si.map Dat.int)) = true := by
    simp only [kqdOk, List.all_eq_true, List.mem_map]
    rintro x ⟨i, _, rfl⟩
    rfl
  obtain ⟨bs, rb⟩ := kqd_in N 9 (DatIn.list (vs := []) hb DatAll.nil) (d := .list []) (by decide)
  refine eq_dataH (PyProof.Rows.Reads.keeps F.keep hr) rb (dat_shaped hk) (dat_shaped (d := .list []) (by decide)) hu ?_
  rw [dat_eqv hk (by decide) (si = []) (by simp)]
  exact h
theorem script_eq0 {sc l : Addr} {ws : List Addr} {n : Nat} (F : Fr g L s.heap m) (N : News g L s.heap news) (hr : Reads g (.ref sc) (PyData.list (([] : List Int).map PyData.int)) ws) (hb : (l, W.listOf #[] n) ∈ news) (hu : A.units + 64 < cLine)
    (h : Q (.bool true) s) : wpAny (model prog w) A (compareOp .Eq (.ref sc) (.ref l)) Q E s := script_eq F N hr hb hu h
theorem script_eq1 {sc l : Addr} {x : Int} {r : List Int} {ws : List Addr} {n : Nat} (F : Fr g L s.heap m) (N : News g L s.heap news) (hr : Reads g (.ref sc) (PyData.list ((x :: r).map PyData.int)) ws) (hb : (l, W.listOf #[] n) ∈ news) (hu : A.units + 64 < cLine)
    (h : Q (.bool false) s) : wpAny (model prog w) A (compareOp .Eq (.ref sc) (.ref l)) Q E s := script_eq F N hr hb hu (by simpa using h)
theorem script_at {value slice : PySem.Expr} {a : Addr} {vs : List Value} {k : Int} {u : Tok} {x : Value} (F : Fr g L s.heap m) (hl : g.IsList a (x :: vs).toArray) (hk : k = 0) (h : Q x s)
    (hs : subscripted slice false (.ref a) (.int k u) = operate [.ref a, .int k u] (getItem (.ref a) (.int k u)) := by with_unfolding_all rfl) :
    wpAny (model prog w) A (subscriptTail value slice (.ref a) (.int k u)) Q E s := by
  subst hk
  obtain ⟨o, e1, e2, n, e3⟩ := hl
  have hl' : s.heap.IsList a (x :: vs).toArray := ⟨o, F.keep _ _ e1, e2, n, e3⟩
  exact tail_any hl'.typeIs slot_list_getitem.lookup (wpAny_getItem_list hl' (by decide) (by decide) (by simp) h) hs
end
theorem reg16 : True := by
  k_with_none
  k_with "kcj_q" => first
    | exact List.mem_cons_self
    | (refine List.mem_cons_of_mem _ ?_; k_extra "kcj_q")
    | (refine List.mem_append.mpr (Or.inr ?_); k_extra "kcj_q")
    | (refine List.mem_append.mpr (Or.inl ?_); k_extra "kcj_q")
    | assumption
    | exact sub_use (by assumption) (by assumption)
  k_with "kd_suf" => first
    | with_reducible exact fun _ h => h
    | (refine sub_cons ?_; k_extra "kd_suf")
    | (refine sub_appR ?_; k_extra "kd_suf")
  k_with "kd_subs" => first
    | k_extra "kd_suf"
    | exact List.forall_mem_nil _
    | assumption
    | (refine List.forall_mem_cons.mpr ⟨?_, ?_⟩; (focus k_extra "kcj_q"); kd_subs)
    | (refine List.forall_mem_append.mpr ⟨?_, ?_⟩; (focus kd_subs); kd_subs)
    | (refine sub_cons ?_; kd_subs)
    | (refine sub_appR ?_; kd_subs)
    | (refine sub_appL ?_; kd_subs)
  k_with "ktn_lt" => first | assumption | exact allLt_of (by assumption) | exact alt1 (by assumption) | exact alt2 (by assumption) | exact alt3 (by assumption) | exact alt4 (by assumption) | exact alt5 (by assumption) | exact alt6 (by assumption)
  k_with "ktn_ord" => first
    | exact Ord.nil
    | assumption
    | (refine Ord.app ?_ ?_ <;> ktn_ord)
    | (refine Ord.lt (by ktn_lt) ?_ ?_; (focus kcj_in); ktn_ord)
    | (refine Ord.le (by ktn_lt) ?_ (by omega) ?_; (focus kcj_in); ktn_ord)
    | (refine Ord.sub (by assumption) ?_; kcj_in)
  k_with "ktr_rel" => first | assumption | (refine DatIn.mono ?_ (by assumption); kd_subs)
  k_with "ktr_enter" => first
    | (refine' code_def (by k_asm) (by k_asm) (by k_asm) (by k_asm) (by k_asm) rfl rfl (by first | assumption | exact rfl) (by k_is) (by k_is) (by k_extra "my room") (by first | exact BindsTo.of_eq rfl | exact binds_K (by k_in) rfl (by k_is) rfl rfl rfl | fail "no rule for these arguments") (locs rfl) ?_ rfl rfl rfl (by decide); k_whole; intro g' L' h' FG' F' N' B' X' T'; (try dsimp only); (try k_fold))
    | (refine' code_defC (by k_asm) (by k_asm) (by k_asm) (by k_asm) (by k_asm) rfl rfl (by first | assumption | exact rfl) (by k_is) (by k_is) (by k_extra "my room") (by first | exact BindsTo.of_eq rfl | exact binds_K (by k_in) rfl (by k_is) rfl rfl rfl | fail "no rule for these arguments") rfl (by decide +kernel) ?_ rfl rfl rfl; k_whole; intro g' L' h' tk' cells' FG' F' N' Y' B' X' T' l1; (try k_lt l1); k_cells Y'; (try simp only [List.cons_append, List.nil_append] at N'); (try dsimp only); (try k_fold))
  k_with "my gend" => (refine' gend (by assumption) (by assumption) (by assumption) (by repeat' (first | exact Split.base0 | refine' Split.skip ?_ | refine' Split.appO (by assumption) ?_ | refine' Split.own ?_)) (by ktn_ord) ?_)
  k_with "my end0" => (refine' gend0 (by assumption) (by assumption) (by assumption) (by kd_subs) ?_; (try unfold Says))
  k_with "my dats" => first | exact DatAll.nil | assumption | (refine DatAll.mono ?_ (by assumption); kd_subs) | (refine DatAll.cons ?_ ?_; (focus k_extra "my dat"); k_extra "my dats")
  k_with "my dat" => first
    | exact DatIn.int _ _
    | assumption
    | (refine DatIn.mono ?_ (by assumption); kd_subs)
    | exact DatIn.tuple (by k_extra "kcj_q") (by k_extra "my dats")
    | exact DatIn.list (by k_extra "kcj_q") (by k_extra "my dats")
  k_with "my rel" => (refine DatIn.mono ?_ (by assumption); kd_subs)
  k_with "my room" => first | exact room1 (by assumption) (by exact rfl) | exact room0 (by assumption) (by exact rfl) | ktr_room
  k_with "my units" => first | exact units1 (by assumption) (by exact rfl) | exact units0 (by assumption) (by exact rfl) | ktr_units
  k_with "my ne" => first | exact ne_gtR (by assumption) (by k_extra "kcj_q") | exact ne_ltR (by assumption) (by k_extra "kcj_q") | k_ne
  k_with "newTuple" => (k_here; k_dflt (refine' kup_newTuple (by k_asm) (by k_asm) ?_ (by kmk_size)); intro D' h' F' N' l1; (try k_sweep))
  k_with "newList" => (k_here; k_dflt (refine' newList_K (by k_asm) (by k_asm) ?_ (by size_fits)); intro l' h' F' N' l1; (try k_sweep))
  k_with "my evv" => first
    | ((with_reducible show Ev _ _ _ _ _ (PySem.Expr.Name _ _) _); exact ev_name (by k_asm) (by exact rfl) (by exact rfl) (by exact rfl) (by decide))
    | ((with_reducible show Ev _ _ _ _ _ (PySem.Expr.Subscript _ (PySem.Expr.Constant _ _ _) _) _); exact ev_item (by k_asm) (by k_extra "my evv") (by k_extra "kcj_q") (by decide) (by exact rfl) (by exact rfl))
  k_with "my ev" => first
    | ((with_reducible show Ev _ _ _ _ _ (PySem.Expr.Constant _ _ _) _); exact ev_int)
    | ((with_reducible show Ev _ _ _ _ _ (PySem.Expr.Name _ _) _); exact ev_nameI (by k_asm) (by exact rfl) (by exact rfl) (by exact rfl) (by decide))
    | ((with_reducible show Ev _ _ _ _ _ (PySem.Expr.Subscript _ (PySem.Expr.Constant _ _ _) _) _); exact ev_itemI (by k_asm) (by k_extra "my evv") (by k_extra "kcj_q") (by decide) (by exact rfl) (by exact rfl))
    | ((with_reducible show Ev _ _ _ _ _ (PySem.Expr.BinOp _ PySem.Operator.Mult _ _) _); exact ev_mul (by k_extra "my ev") (by k_extra "my ev") (by mul_fits))
    | ((with_reducible show Ev _ _ _ _ _ (PySem.Expr.BinOp _ PySem.Operator.Add _ _) _); exact ev_add (by k_extra "my ev") (by k_extra "my ev"))
    | ((with_reducible show Ev _ _ _ _ _ (PySem.Expr.BinOp _ PySem.Operator.Sub _ _) _); exact ev_sub (by k_extra "my ev") (by k_extra "my ev"))
    | ((with_reducible show Ev _ _ _ _ _ (PySem.Expr.UnaryOp PySem.UnaryOp.USub _ _) _); exact ev_neg (by k_extra "my ev"))
  k_with "eval BinOp" => (k_here; k_dflt (refine' ev_runI (by k_extra "my ev") ?_); intro t' tk'; (try dsimp only))
  k_with "eval UnaryOp" => (k_here; (with_reducible show wpAny _ _ (eval (PySem.Expr.UnaryOp _ (PySem.Expr.Subscript _ _ _) _) _) _ _ _); k_dflt (refine' ev_runI (by k_extra "my ev") ?_); intro t' tk'; (try dsimp only))
  k_with "eval Subscript" => (k_here; k_dflt (refine' ev_runV (by k_extra "my evv") ?_); intro tk'; (try dsimp only))
  k_with "my bit" => first | assumption | exact Bd.nu (by assumption) | exact Bd.de (by assumption) | (k_dflt (first | exact bp_nx (by assumption) | exact bp_dx (by assumption) | exact bp_ny (by assumption) | exact bp_dy (by assumption)))
  k_with "my lit" => first
    | ((with_reducible show LitD (PySem.Expr.Constant (PySem.Const.int _) _ _) _); exact lit_int)
    | ((with_reducible show LitD (PySem.Expr.Constant (PySem.Const.str _) _ _) _); exact lit_str)
    | ((with_reducible show LitD (PySem.Expr.UnaryOp PySem.UnaryOp.USub (PySem.Expr.Constant (PySem.Const.int _) _ _) _) _); exact lit_neg)
    | ((with_reducible show LitD (PySem.Expr.Tuple _ _ _) _); exact lit_tuple (by k_extra "my lits") (by exact Nat.le_of_ble_eq_true rfl))
    | ((with_reducible show LitD (PySem.Expr.List _ _) _); exact lit_list (by k_extra "my lits") (by exact Nat.le_of_ble_eq_true rfl))
  k_with "my lits" => first
    | ((with_reducible show LitA [] _); exact litA_nil)
    | ((with_reducible show LitA (_ :: _) _); exact litA_cons (by k_extra "my lit") (by k_extra "my lits"))
  k_with "my dvs" => first
    | ((with_reducible show DvA _ _ _ _ _ _ _ _ [] _); exact dvA_nil)
    | ((with_reducible show DvA _ _ _ _ _ _ _ _ (_ :: _) _); exact dvA_cons (by k_extra "my dv") (by k_extra "my dvs"))
  k_with "my dv" => first
    | ((with_reducible show Dv _ _ _ _ _ _ _ _ (PySem.Expr.Name _ _) _); exact dv_name (by exact rfl) (by k_extra "my dat") (by exact rfl) (by exact rfl) (by decide))
    | ((with_reducible show Dv _ _ _ _ _ _ _ _ (PySem.Expr.Constant _ _ _) _); exact dv_lit (by k_extra "my lit"))
    | ((with_reducible show Dv _ _ _ _ _ _ _ _ (PySem.Expr.Subscript _ (PySem.Expr.Constant _ _ _) _) _); first | exact dv_item (by k_extra "my dv") (by decide) (by exact rfl) (by exact rfl) | exact dv_item0 (by k_extra "my dv"))
    | ((with_reducible show Dv _ _ _ _ _ _ _ _ (PySem.Expr.Tuple _ _ _) _); first | exact dv_lit (by k_extra "my lit") | exact dv_tuple (by k_extra "my dvs") (by exact Nat.le_of_ble_eq_true rfl))
    | ((with_reducible show Dv _ _ _ _ _ _ _ _ (PySem.Expr.List _ _) _); exact dv_lit (by k_extra "my lit"))
    | ((with_reducible show Dv _ _ _ _ _ _ _ _ (PySem.Expr.BinOp _ PySem.Operator.Mult _ _) _); exact dv_mul (by k_extra "my dv") (by k_extra "my dv") (by mul_fits))
    | ((with_reducible show Dv _ _ _ _ _ _ _ _ (PySem.Expr.BinOp _ PySem.Operator.Add _ _) _); exact dv_add (by k_extra "my dv") (by k_extra "my dv"))
    | ((with_reducible show Dv _ _ _ _ _ _ _ _ (PySem.Expr.BinOp _ PySem.Operator.Sub _ _) _); exact dv_sub (by k_extra "my dv") (by k_extra "my dv"))
    | ((with_reducible show Dv _ _ _ _ _ _ _ _ (PySem.Expr.UnaryOp PySem.UnaryOp.USub _ _) _); exact dv_neg (by k_extra "my dv"))
    | ((with_reducible show Dv _ _ _ _ _ _ _ _ (PySem.Expr.Call _ _ _ _) _); exact dv_call (by k_asm) (by k_asm) (by k_asm) (by exact rfl) (by k_extra "my fn") (by k_is) (by exact rfl) (by k_extra "my dv") (by k_extra "my dvs") (by exact rfl) (by k_extra "my con") (by k_extra "my room") (by k_extra "my units"))
  k_with "eval Call" => (k_here; k_dflt (refine Wq.out ?_; refine' dv_runB (by assumption) (by k_asm) (by k_asm) (by kd_subs) (by kd_subs) (by k_extra "my dv") ?_); intro v9 t9 h9 tk9 F9 N9 O9 D9; (have hB9 := baseOf (by assumption) D9); (try k_dflt (k_extra "my got")); (try k_sweep))
  k_with "eval Tuple" => (k_here; k_dflt (refine Wq.out ?_; refine' dv_runB (by assumption) (by k_asm) (by k_asm) (by kd_subs) (by kd_subs) (by k_extra "my dv") ?_); intro v9 t9 h9 tk9 F9 N9 O9 D9; (have hB9 := baseOf (by assumption) D9); (try k_dflt (k_extra "my got")); (try k_sweep))
  k_with "eval List" => (k_here; k_dflt (refine Wq.out ?_; refine' dv_runB (by assumption) (by k_asm) (by k_asm) (by kd_subs) (by kd_subs) (by k_extra "my dv") ?_); intro v9 t9 h9 tk9 F9 N9 O9 D9; (have hB9 := baseOf (by assumption) D9); (try k_dflt (k_extra "my got")); (try k_sweep))
  k_with "exec Assign" => (k_here; (with_reducible show wpAny _ _ (exec (PySem.Stmt.Assign [PySem.Expr.Tuple [PySem.Expr.Name _ _, PySem.Expr.Name _ _] _ _] _ _) _) _ _ _); k_dflt (refine Wq.out ?_; refine' dv_pair (by assumption) (by k_asm) (by k_asm) (by kd_subs) (by kd_subs) (by k_extra "my dv") (by with_unfolding_all rfl) (by exact rfl) (by exact rfl) (by exact rfl) (by exact rfl) (by exact rfl) ?_); intro vx9 vy9 t9 h9 tk9 F9 N9 O9 D9 E9; (have hB9 := baseOf (by assumption) D9); (try k_sweep))
  k_with "exec Return some" => (k_here; k_dflt (refine Wq.out ?_; refine' dv_ret (by assumption) (by k_asm) (by k_asm) (by kd_subs) (by kd_subs) (by k_extra "my dv") ?_); intro v9 t9 h9 tk9 F9 N9 O9 D9; (try k_sweep))
  k_with "exec Assign" => (k_here; (with_reducible show wpAny _ _ (exec (PySem.Stmt.Assign [PySem.Expr.Name _ _] _ _) _) _ _ _); k_dflt (refine Wq.out ?_; refine' dv_set (by assumption) (by k_asm) (by k_asm) (by kd_subs) (by kd_subs) (by k_extra "my dv") (by exact rfl) (by exact rfl) (by exact rfl) ?_); intro v9 t9 h9 tk9 F9 N9 O9 D9; (have hB9 := baseOf (by assumption) D9); (try k_dflt (k_extra "my got")); (try k_sweep))
  k_with "my fn" => first
    | ((with_reducible show FnAt _ _ _ _ _ (compEnvC _ _ _ _) _ _); exact fnC (by k_asm) (by k_asm) (by k_is) (by exact rfl) (by exact rfl) (by exact rfl) (by decide))
    | exact fnX (by k_asm) (by k_asm) (by exact rfl) (by k_is) (by exact rfl) (by decide)
  k_with "subscriptTail Name Slice ref ref" => (k_here; (with_reducible show wpAny _ _ (subscriptTail _ (PySem.Expr.Slice none none (some _) _) (Value.ref _) (Value.ref _)) _ _ _); k_dflt (refine' tup_rev (by k_asm) (by k_asm) (by k_mem) rfl ?_ (by with_unfolding_all rfl) (by kmk_pure) (by first | exact Nat.le_of_ble_eq_true rfl | exact LenOk.le (by assumption))); intro D' h' F' N' l1; (try k_sweep))
  k_with "subscriptTail Name Slice ref ref" => (k_here; (with_reducible show wpAny _ _ (subscriptTail _ (PySem.Expr.Slice (some _) none none _) (Value.ref _) (Value.ref _)) _ _ _); k_dflt (refine' tup_tail (by k_asm) (by k_asm) (by k_mem) ?_ (by with_unfolding_all rfl) (by kmk_pure) (by first | exact Nat.le_of_ble_eq_true rfl | exact LenOk.le (by assumption))); intro D' h' F' N' l1; (try k_sweep))
  k_with "exec For" => (k_here; (rename Fr _ _ _ _ => lF'); (with_unfolding_all refine' For_turns lF' ?_; k_whole))
  k_with "exec For Name Subscript cons nil" => (k_here; (rename Fr _ _ _ _ => lF'); (with_unfolding_all refine' For_turns lF' ?_; k_whole))
  k_with "exec For Tuple Call cons nil" => (k_here; (rename Fr _ _ _ _ => lF'); (with_unfolding_all refine' For_turns lF' ?_; k_whole))
  k_with "exec For Name Call cons nil" => (k_here; (rename Fr _ _ _ _ => lF'); (with_unfolding_all refine' For_turns lF' ?_; k_whole))
  k_with "exec For Name Call cons cons" => (k_here; (rename Fr _ _ _ _ => lF'); (with_unfolding_all refine' For_turns lF' ?_; k_whole))
  k_with "pyIter ref" => (k_here; (with_reducible show wpAny _ _ (pyIter (Value.ref _)) (fun it s₂ => TurnsAt _ _ _ _ _ _ _ _ _ it s₂) _ _); k_dflt (refine' for_tup (by with_unfolding_all rfl) (by k_asm) (by k_asm) (by k_mem) rfl rfl ?_); (try dsimp only [List.map_cons, List.map_nil]))
  k_with "PRest" => first
    | (refine PRest.succ ?_; intro t' own' h' tk' F' N'; (try simp only [bindB] at F'); (try k_sweep); (try k_fold))
    | (refine PRest.zero ?_; intro h' tk' F' N'; (try k_sweep))
  k_with "TPost" => first | (dsimp only [TPost]) | (refine TPost.ret ?_; (try dsimp only)) | (refine TPost.next ?_) | (refine TPost.cont ?_)
  k_with "TEnd" => (refine TEnd.intro (by k_asm) (by k_asm) (by kd_subs) ?_)
  k_with "my bits" => first | k_extra "my bit" | exact Bits.mul (by k_extra "my bits") (by k_extra "my bits") | exact Bits.add (by k_extra "my bits") (by k_extra "my bits") | exact Bits.sub (by k_extra "my bits") (by k_extra "my bits") | exact Bits.neg (by k_extra "my bits") | exact Bits.lit (by decide)
  k_with "my bitsle" => exact Bits.mono (by k_extra "my bits") (by decide)
  k_with "mul_fits" => first | (refine Bits.ok (n := 8000) (m := 8000) ?_ ?_ (by decide) <;> assumption) | (refine Bits.ok (by k_extra "my bits") (by k_extra "my bits") (by decide))
  k_with "call type:zip" => (k_here; (with_reducible show wpAny _ _ (call (Value.type _) [Value.ref _, Value.ref _, Value.ref _]) (fun xv s₁ => wpAny _ _ (pyIter xv) (fun it s₂ => TurnsAt _ _ _ _ _ _ _ _ _ it s₂) _ s₁) _ _); k_dflt (refine' for_zip3 (by with_unfolding_all rfl) (by k_asm) (by k_asm) (by k_mem) (by k_mem) (by k_mem) (by exact rfl) (by exact rfl) rfl rfl rfl rfl ?_); (try dsimp only [trip3]))
  k_with "call type:tuple" => (k_here; (with_reducible show wpAny _ _ (call (Value.type _) [Value.ref _]) _ _ _); k_dflt (refine' call_tuple_tup (News.isTup (by k_asm) (by k_mem)) ?_))
  k_with "eval ListComp" => (k_here; (rename Fr _ _ _ _ => lF'); k_dflt (refine' comp_eval lF' rfl (by decide) rfl (by decide) ?_ (by intro _; rfl)))
  k_with "exec Assign cons ListComp" => (k_here; (rename Fr _ _ _ _ => lF'); k_dflt (refine' comp_assign lF' rfl rfl (by decide) rfl (by decide) rfl rfl ?_ (by intro _; rfl)))
  k_with "k_all" => first
    | exact List.forall_mem_nil _
    | assumption
    | (refine' List.forall_mem_cons.mpr ⟨?_, ?_⟩; (focus first | k_extra "my ne" | assumption | exact ne_gt (by ktn_lt) (by k_extra "kcj_q") | exact ne_lt (by ktn_lt) (by k_extra "kcj_q")); k_all)
    | (refine' List.forall_mem_append.mpr ⟨?_, ?_⟩; (focus k_all); k_all)
    | exact off_gt (by assumption) (by k_extra "kcj_q")
    | exact off_leS (by assumption) (by omega)
    | exact off_le (by ktn_lt) (by kd_subs) (by omega)
  k_with "k_upd" => first | exact Upd.head (by k_all) | ((with_reducible show Upd _ _ _ (_ :: _) _); exact Upd.tail (by k_extra "my ne") (by k_upd)) | (refine' upd_app ?_ ?_; (focus k_all); k_upd)
  k_with "k_updF" => first | exact UpdF.head (by k_all) | ((with_reducible show UpdF _ _ (_ :: _) _); exact UpdF.tail (by k_extra "my ne") (by k_updF)) | (refine' updF_app ?_ ?_; (focus k_all); k_updF)
  k_with "k_mem" => k_extra "kcj_q"
  k_with "pyIter ref" => (k_here; (with_reducible show wpAny _ _ (pyIter (Value.ref _)) (fun it s₂ => CompAt _ _ _ _ _ _ _ _ _ _ _ _ _ it s₂) _ _); k_dflt (refine' comp_range (by with_unfolding_all rfl) (by assumption) (by first | rfl | decide | exact small_of (by assumption)) (by first | rfl | exact Int.toNat_of_nonneg (by decide) | exact size_of _) (by k_asm) (by k_asm) rfl rfl (by first | decide | exact Nat.le_of_ble_eq_true rfl | exact LenOk.le (by assumption)) ?_); intro I' s9 hs9; (obtain ⟨h9, e9⟩ := hs9); subst e9; (try simp only [List.range, List.range.loop, List.map_cons, List.map_nil]); (try k_sweep))
  k_with "pyIter ref" => (k_here; (with_reducible show wpAny _ _ (pyIter (Value.ref _)) (fun it s₂ => CompAt _ _ _ _ _ _ _ _ _ _ _ _ _ it s₂) _ _); k_dflt (refine' comp_list (by with_unfolding_all rfl) (by k_asm) (by k_asm) (by k_mem) rfl rfl (by first | exact Nat.le_of_ble_eq_true rfl | exact LenOk.le (by assumption)) ?_); intro I' s9 hs9; (obtain ⟨h9, e9⟩ := hs9); subst e9; (try simp only [List.map_cons, List.map_nil]); (try k_sweep))
  k_with "pyIter ref" => (k_here; (with_reducible show wpAny _ _ (pyIter (Value.ref _)) (fun it s₂ => CompAt _ _ _ _ _ _ _ _ _ _ _ _ _ it s₂) _ _); k_dflt (refine' comp_tup (by with_unfolding_all rfl) (by k_asm) (by k_asm) (by k_mem) rfl rfl (by first | exact Nat.le_of_ble_eq_true rfl | exact LenOk.le (by assumption)) ?_); intro I' s9 hs9; (obtain ⟨h9, e9⟩ := hs9); subst e9; (try simp only [List.map_cons, List.map_nil]); (try k_sweep))
  k_with "call type:zip" => (k_here; (with_reducible show wpAny _ _ (call (Value.type _) [Value.ref _, Value.ref _, Value.ref _]) (fun xv s₁ => wpAny _ _ (pyIter xv) (fun it s₂ => CompAt _ _ _ _ _ _ _ _ _ _ _ _ _ it s₂) _ s₁) _ _); k_dflt (refine' comp_zip3 (by with_unfolding_all rfl) (by k_asm) (by k_asm) (by k_mem) (by k_mem) (by k_mem) (by exact rfl) (by exact rfl) (by exact Nat.le_of_ble_eq_true rfl) rfl rfl rfl rfl (by decide) (by decide) (by decide) ?_); intro I' s9 hs9; (obtain ⟨h9, e9⟩ := hs9); subst e9; (try dsimp only [trip3]); (try k_sweep))
  k_with "CRest" => first
    | (refine CRest.zero ?_)
    | (refine CRest.plain ?_; intro t' own' C' oC' D' m' h' tk' E' hC' hx' F' N' off' wo'; (first | (obtain ⟨hx1, hx2, hx3, _⟩ := hx'; (try dsimp only at hx1 hx2 hx3)) | (obtain ⟨hx1, _⟩ := hx'; (try dsimp only at hx1))); (try k_sweep); (try k_fold))
    | (refine CRest.test ?_; intro t' own' C' oC' D' m' h' tk' E' hC' hx' F' N' off' wo'; (first | (obtain ⟨hx1, hx2, hx3, _⟩ := hx'; (try dsimp only at hx1 hx2 hx3)) | (obtain ⟨hx1, _⟩ := hx'; (try dsimp only at hx1))); (try k_sweep); (try k_fold))
  k_with "my coff" => first
    | exact coff_nil
    | assumption
    | (with_reducible refine' coff_e (by assumption) (by k_extra "kcj_q") ?_; k_extra "my coff")
    | (with_reducible refine' coff_consW (by assumption) (by ktn_lt) (by k_extra "kcj_q") (by k_extra "kcj_q") (by kd_subs) ?_; k_extra "my coff")
    | (with_reducible refine' coff_app ?_ ?_; (focus k_extra "my coff"); k_extra "my coff")
    | (with_reducible refine' coff_sub (by assumption) (by kd_subs))
    | (with_reducible refine' coff_ordW (by assumption) (by assumption) (by k_extra "kcj_q") (by k_extra "kcj_q") (by kd_subs))
  k_with "CEnd" => (k_dflt (refine' cend (by k_asm) (by k_asm) (by k_extra "kcj_q") (by k_extra "kcj_q") (by kd_subs) (by repeat' (first | exact CS.base | refine' CS.skip ?_)) (by k_extra "my coff") ?_); (try simp only [List.nil_append, List.cons_append]))
  k_with "FinC" => (unfold FinC; intro D' h' tk' F' N' o1' l1'; (try dsimp only [PyProof.Rows.LCg.lst, List.length_cons, List.length_nil] at N'); (try simp only [AllLt, and_true] at l1'); (try dsimp only))
  k_with "FinS" => (unfold FinS; intro D' h' tk' F' N' o1' l1'; (try dsimp only [PyProof.Rows.LCg.lst, List.length_cons, List.length_nil] at N'); (try simp only [AllLt, and_true] at l1'); (try dsimp only))
  k_with "my sub" => (k_here; (with_reducible show wpAny _ _ (subscriptTail _ _ (Value.ref _) (Value.int _ _)) _ _ _); k_dflt (first
    | ((with_reducible show wpAny _ _ (subscriptTail _ _ (Value.ref _) (Value.int 0 _)) _ _ _); first | refine' item_tup0 (by k_asm) (by k_extra "kcj_q") ?_ (by with_unfolding_all rfl) | refine' item_tup0S (by k_asm) (by assumption) (by exact rfl) (by kd_subs) ?_ (by with_unfolding_all rfl))
    | (refine' item_tupS (by k_asm) (by assumption) (by exact rfl) (by kd_subs) (by decide) (by decide) (by exact rfl) (by exact rfl) ?_ (by with_unfolding_all rfl))
    | (refine' item_lstS (by k_asm) (by assumption) (by exact rfl) (by kd_subs) (by decide) (by decide) (by exact rfl) ?_ (by with_unfolding_all rfl))
    | (refine' item_lstNS (by k_asm) (by assumption) (by exact rfl) (by kd_subs) (by decide) (by decide) (by exact rfl) (by exact rfl) ?_ (by with_unfolding_all rfl))
    | (refine' item_lst (by k_asm) (by k_extra "kcj_q") (by decide) (by decide) (by exact rfl) ?_ (by with_unfolding_all rfl))
    | (refine' item_lstN (by k_asm) (by k_extra "kcj_q") (by decide) (by decide) (by exact rfl) (by exact rfl) ?_ (by with_unfolding_all rfl))))
  k_with "subscriptTail" => k_extra "my sub"
  k_with "subscriptTail Name" => k_extra "my sub"
  k_with "subscriptTail Subscript" => k_extra "my sub"
  k_with "subscriptTail Name Constant ref int" => k_extra "my sub"
  k_with "subscriptTail Name Name ref int" => k_extra "my sub"
  k_with "subscriptTail Name BinOp ref int" => k_extra "my sub"
  k_with "subscriptTail Name UnaryOp ref int" => k_extra "my sub"
  k_with "my sub" => (k_here; (with_reducible show wpAny _ _ (subscriptTail _ _ (Value.ref _) (Value.int _ _)) _ _ _); k_dflt (first
    | (refine' item_tupAt (by k_asm) (by k_extra "kcj_q") (by with_reducible assumption) (by assumption) ?_ (by with_unfolding_all rfl))
    | (refine' item_lstAt (by k_asm) (by k_extra "kcj_q") (by with_reducible assumption) (by assumption) ?_ (by with_unfolding_all rfl))))
  k_with "my sub" => (k_here; (with_reducible show wpAny _ _ (subscriptTail _ _ (Value.ref _) (Value.int (-1) _)) _ _ _); k_dflt (first
    | (refine' item_lstLast (by k_asm) (by k_extra "kcj_q") (by with_reducible assumption) ?_ (by with_unfolding_all rfl))
    | (refine' item_tupLast (by k_asm) (by k_extra "kcj_q") (by with_reducible assumption) ?_ (by with_unfolding_all rfl))))
  k_with "call builtin:len" => (k_here; (with_reducible show wpAny _ _ (call (Value.builtin "len") [Value.ref _]) _ _ _); k_dflt (first
    | (refine' len_tupL (by k_asm) (by k_extra "kcj_q") (by assumption) ?_)
    | (refine' len_lstL (by k_asm) (by k_extra "kcj_q") (by assumption) ?_)); intro t9 t8; (try dsimp only [List.length_cons, List.length_nil]); (try dsimp only))
  k_with "call type:tuple" => (k_here; (with_reducible show wpAny _ _ (call (Value.type _) [Value.ref _]) _ _ _); k_dflt (refine' tup_of_list (by k_asm) (by k_asm) (by k_extra "kcj_q") (by assumption) ?_); intro D' h' F' N' l1; (try k_sweep))
  k_with "call builtin:list.append" => (k_here; (with_reducible show wpAny _ _ (call (Value.builtin _) [Value.ref _, _]) _ _ _); k_dflt (refine' append_L (by k_asm) (by k_asm) (by first | refine' Upd.tail (by k_extra "my ne") (Upd.tail (by k_extra "my ne") (upd_app (by k_all) (Upd.head (by k_all)))) | k_upd) (by assumption) ?_); intro h' F' N'; (try k_sweep))
  k_with "compareOp NotEq ref ref" => (k_here; k_dflt (first
    | (refine' nil_ne_nil (by k_asm) (by k_extra "kcj_q") (by k_extra "kcj_q") (by k_extra "my units") ?_)
    | (refine' cons_ne_nil (by k_asm) (by k_extra "kcj_q") (by k_extra "kcj_q") (by assumption) (by k_extra "my units") ?_)))
  k_with "setItem ref int int" => (k_here; (with_reducible show wpAny _ _ (setItem (Value.ref _) (Value.int _ _) (Value.int _ _)) _ _ _); k_dflt (refine' set_lst (by k_asm) (by k_asm) (by decide) (by decide) (by first | exact Upd.tail (by first | k_extra "my ne" | assumption) (Upd.head (by k_all)) | k_upd) (by exact Nat.le_of_ble_eq_true rfl) ?_); intro h' F' N'; (try k_sweep))
  k_with "call builtin:list.pop" => (k_here; (with_reducible show wpAny _ _ (call (Value.builtin _) [Value.ref _, Value.int 0 _]) _ _ _); k_dflt (refine' pop0 (by k_asm) (by k_asm) (by first | exact Upd.tail (by k_extra "my ne") (Upd.tail (by first | k_extra "my ne" | assumption) (Upd.head (by k_all))) | k_upd) (by assumption) ?_); intro h' F' N'; (try k_sweep))
  k_with "subscriptTail Name Constant ref int" => (k_here; (with_reducible show wpAny _ _ (subscriptTail _ _ (Value.ref _) (Value.int 0 _)) _ _ _); k_dflt (refine' script_at (by k_asm) (by assumption) rfl ?_ (by with_unfolding_all rfl)))
  k_with "mul_fits" => first | (with_reducible exact blend_fits) | (with_reducible exact ite_fits)
  k_with "compareOp NotEq ref ref" => (k_here; k_dflt (first | (refine' script_ne0 (by k_asm) (by k_asm) (by assumption) (by k_extra "kcj_q") (by k_extra "my units") ?_) | (refine' script_ne1 (by k_asm) (by k_asm) (by assumption) (by k_extra "kcj_q") (by k_extra "my units") ?_)))
  k_with "compareOp Eq ref ref" => (k_here; k_dflt (first | (refine' script_eq0 (by k_asm) (by k_asm) (by assumption) (by k_extra "kcj_q") (by k_extra "my units") ?_) | (refine' script_eq1 (by k_asm) (by k_asm) (by assumption) (by k_extra "kcj_q") (by k_extra "my units") ?_)))
  trivial
set_option maxRecDepth 100000 in
set_option maxHeartbeats 4000000 in
theorem ct_pool {w : World} {mean : ExcName → Option Value} {mg mb : Str → Option Value} {sc : Addr} {R : Addr} {sv : List Value} {si : List Int} {ws : List Addr} {u1 u2 u3 u4 : Tok} :
    ∀ (dp un : Nat) (gd : Option (List Code)) (cn : Str) (cs : Scope) (a : Addr) (ccd : Value) (cl : List (Str × Addr)) (outer : List Env) (A₀ : Around) (base h₀ : Heap) (L : Addr) (m : Str → Option Value) (s : Shared) (nw : Led)
    (Q E : Value → Shared → Prop) (_ : IntsAre sv si) (_ : Reads h₀ (.ref sc) (PyData.list (si.map PyData.int)) ws) (_ : h₀.IsList sc sv.toArray)
    (_ : Below A₀ base outer h₀) (_ : Fr h₀ L s.heap m) (_ : (hd.heap_39 w.params).In h₀) (_ : News h₀ L s.heap ((R, W.listOf #[.int 1 u1, .int 0 u2, .int 1 u3, .int 2 u4] 0) :: nw)) (_ : Top hd.view_39 (looseW hd.view_39 [Str.ofString "fraction", Str.ofString "direction"]) mean mg mb h₀) (_ : cs.kind = .function)
    (_ : AllLt R nw) (_ : dp + 14 < recursionLimit) (_ : un + 8 * 14 < cLine)
    (_ : ∀ S R oS oR h' tk', Fr h₀ L h' m → News h₀ L h' ((S, oS) :: (R, oR) :: nw) → SrcA S R oS oR → AllLt R nw → AllLt S nw → Q (.ref S) { s with heap := h', toks := tk' }),
    wpAny (model PySem.Challenge.rw_on0222_01.row.prog w) (ktrTop dp un gd cn cs L a ccd cl outer) (call (.ref 142) [.ref sc, .ref R]) Q E s := by
  k_fill
  have hM := kdMark
  intro dp un gd cn cs a ccd cl outer A₀ base h₀ L m s nw Q E hsi hrd hsc B F X N T hk hR hd hu hret
  refine wpAny_call ?_
  k_dflt ktr_enter
  replace hrd := PyProof.Rows.Reads.keeps FG'.keep hrd
  obtain ⟨o9, e1, e2, n9, e3⟩ := hsc
  replace e1 := FG'.keep _ _ e1
  cases hsi with
  | nil =>
    k_steps
    all_goals (refine hret _ _ _ _ _ _ (by assumption) (cb_drop (by assumption) (by kd_subs)) ⟨by first | k_extra "my ne" | assumption, _, _, _, _, _, _, [_, _, _, _], ?_, ?_, rfl, rfl, Nat.le_of_ble_eq_true rfl, ?_⟩ hR (by exact allLt_sub (by assumption) (by kd_subs)))
    · exact Int.fmod_nonneg_of_pos _ (by decide)
    · exact Int.fmod_lt_of_pos _ (by decide)
    · intro v hv
      simp only [List.mem_cons, List.not_mem_nil, or_false] at hv
      rcases hv with rfl | rfl | rfl | rfl <;> exact ⟨_, _, rfl⟩
  | cons hx hsi =>
    have hsc : g'.IsList _ _ := ⟨o9, e1, e2, n9, e3⟩
    k_steps
    all_goals (refine hret _ _ _ _ _ _ (by assumption) (cb_drop (by assumption) (by kd_subs)) ⟨by first | k_extra "my ne" | assumption, _, _, _, _, _, _, [], ?_, ?_, rfl, rfl, Nat.le_of_ble_eq_true rfl, ?_⟩ (by exact allLt_sub (by assumption) (by kd_subs)) (by exact allLt_sub (by assumption) (by kd_subs)))
    all_goals first | exact Int.fmod_nonneg_of_pos _ (by decide) | exact Int.fmod_lt_of_pos _ (by decide) | exact fun _ h => nomatch h
end
section
open PyProof.Rows.LCg (NsObj lst)
/-- what holds at each turn of the comprehension that draws the points -/
def DrawI (S R : Addr) (oS₀ oR₀ : Obj) (nw : Led) (n : Nat) (ys : List Value) (r : List Nat) (l : Led) : Prop :=
  ∃ (oS oR : Obj) (t : Led) (pts : List Pt), l = (S, oS) :: (R, oR) :: (t ++ nw) ∧ SrcA S R oS oR ∧ Ord ((S, oS₀) :: (R, oR₀) :: nw) t ∧ DatAll t ys (pts.map pd) ∧ pts.length + r.length = n ∧ ∀ p ∈ pts, Bp 3 p
theorem draw_turn {w : World} {mean : ExcName → Option Value} {mg mb : Str → Option Value} {S R : Addr} {dp un : Nat} {gd : Option (List Code)} {cn : Str} {cs : Scope} {a : Addr} {ccd : Value} {cl : List (Str × Addr)} {outer : List Env} {A₀ : Around} {base h₀ h : Heap} {L C D : Addr} {m : Str → Option Value} {s : Shared} {tk : Nat} {own nw t : Led} {oC oS oR oS₀ oR₀ : Obj}
    {ws : List Addr} {ys : List Value} {pts : List Pt} {n i : Nat} {r : List Nat} {E : Value → Shared → Prop}
    (B : Below A₀ base outer h₀) (F : Fr h₀ L h m) (X : (hd.heap_39 w.params).In h₀) (N : News h₀ L h ((C, oC) :: (D, lst ys) :: (own ++ ((S, oS) :: (R, oR) :: (t ++ nw))))) (T : Top hd.view_39 (looseW hd.view_39 [Str.ofString "fraction", Str.ofString "direction"]) mean mg mb h₀) (hk : cs.kind = .function)
    (src : SrcA S R oS oR) (ho : Ord ((S, oS₀) :: (R, oR₀) :: nw) t) (hd : DatAll t ys (pts.map pd)) (hn : pts.length + (i :: r).length = n) (hb : ∀ p ∈ pts, Bp 3 p) (k5 : COff (ws, ws) C D ((S, oS) :: (R, oR) :: (t ++ nw))) (k6 : OwnW (ws, ws) own)
    (hS : ∀ p ∈ nw, p.1 ≠ S) (hR : ∀ p ∈ nw, p.1 ≠ R) (hdp : dp + 18 < recursionLimit) (hu : un + 8 * 18 < cLine) :
    wpAny (model PySem.Challenge.rw_on0222_01.row.prog w) (ktrTop dp un gd cn cs L a ccd cl outer) (call (.ref 163) [.ref S]) (CEnd h₀ L m { s with heap := h, toks := tk } (ws, ws) own C oC D ys (fun y news' => DrawI S R oS₀ oR₀ nw n (ys ++ [y]) r news')) E { s with heap := h, toks := tk } := by
  have oS' := k5 (S, oS) (.head _)
  have oR' := k5 (R, oR) (.tail _ (.head _))
  have hcut : Cut S R oS oR ((C, oC) :: (D, lst ys) :: (own ++ ((S, oS) :: (R, oR) :: (t ++ nw)))) ((C, oC) :: (D, lst ys) :: (own ++ (t ++ nw))) := .skip (.skip (.app .here))
  have off : ∀ (A : Addr) (o : Obj), (A, o) ∈ (S, oS) :: (R, oR) :: (t ++ nw) → (A, oS₀) ∈ (S, oS₀) :: (R, oR₀) :: nw ∨ (A, oR₀) ∈ (S, oS₀) :: (R, oR₀) :: nw → (∀ p ∈ nw, p.1 ≠ A) → ∀ p ∈ (C, oC) :: (D, lst ys) :: (own ++ (t ++ nw)), p.1 ≠ A := by
    intro A o hA hm hnw p hp
    have oA := k5 _ hA
    rcases List.mem_cons.mp hp with rfl | hp
    · exact Ne.symm oA.2.1
    rcases List.mem_cons.mp hp with rfl | hp
    · exact Ne.symm oA.2.2
    rcases List.mem_append.mp hp with hp | hp
    · exact fun e => oA.1 (e ▸ k6.fo p hp)
    rcases List.mem_append.mp hp with hp | hp
    · rcases hm with hm | hm
      · exact Nat.ne_of_gt (ho _ hm p hp)
      · exact Nat.ne_of_gt (ho _ hm p hp)
    · exact hnw p hp
  refine GivesS.use B F X N T hk ct_point src hcut (off S oS (.head _) (.inl (.head _)) hS) (off R oR (.tail _ (.head _)) (.inr (.tail _ (.head _))) hR) (List.forall_mem_nil _) hdp hu ?_
  intro y t9 oS9 oR9 h9 tk9 F9 N9 src9 O9 D9
  obtain ⟨p, dp9, bp9⟩ := D9
  have c9 : COff (ws, ws) C D t9 := coff_ordW k6 O9 (.tail _ (.tail _ (.head _))) (.tail _ (.tail _ (.tail _ (.head _)))) fun q hq => .tail _ (.tail _ (.tail _ (.tail _ (List.mem_append.mpr (.inl hq)))))
  refine CEnd.intro (news' := (S, oS9) :: (R, oR9) :: ((t9 ++ t) ++ nw)) F9 N9 ?_ ?_ ⟨oS9, oR9, t9 ++ t, pts ++ [p], rfl, src9, Ord.app (Ord.addr O9 ?_) ho, ?_, ?_, ?_⟩
  · intro q hq
    rcases List.mem_cons.mp hq with rfl | hq
    · exact .tail _ (.tail _ (List.mem_append.mpr (.inr (.head _))))
    rcases List.mem_cons.mp hq with rfl | hq
    · exact .tail _ (.tail _ (List.mem_append.mpr (.inr (.tail _ (.head _)))))
    rcases List.mem_append.mp hq with hq | hq
    · exact .tail _ (.tail _ (List.mem_append.mpr (.inr (.tail _ (.tail _ (List.mem_append.mpr (.inl hq)))))))
    rcases List.mem_cons.mp hq with rfl | hq
    · exact .head _
    rcases List.mem_cons.mp hq with rfl | hq
    · exact .tail _ (.head _)
    rcases List.mem_append.mp hq with hq | hq
    · rcases List.mem_append.mp hq with hq | hq
      · exact .tail _ (.tail _ (List.mem_append.mpr (.inl hq)))
      · exact .tail _ (.tail _ (List.mem_append.mpr (.inr (.tail _ (.tail _ (List.mem_append.mpr (.inr (List.mem_append.mpr (.inl hq)))))))))
    · exact .tail _ (.tail _ (List.mem_append.mpr (.inr (.tail _ (.tail _ (List.mem_append.mpr (.inr (List.mem_append.mpr (.inr hq)))))))))
  · intro q hq
    rcases List.mem_cons.mp hq with rfl | hq
    · exact oS'
    rcases List.mem_cons.mp hq with rfl | hq
    · exact oR'
    rcases List.mem_append.mp hq with hq | hq
    · rcases List.mem_append.mp hq with hq | hq
      · exact c9 q hq
      · exact k5 q (.tail _ (.tail _ (List.mem_append.mpr (.inl hq))))
    · exact k5 q (.tail _ (.tail _ (List.mem_append.mpr (.inr hq))))
  · intro q hq
    rcases List.mem_cons.mp hq with rfl | hq
    · exact ⟨oS, .head _⟩
    rcases List.mem_cons.mp hq with rfl | hq
    · exact ⟨oR, .tail _ (.head _)⟩
    · exact ⟨q.2, .tail _ (.tail _ (.tail _ (.tail _ (List.mem_append.mpr (.inr (List.mem_append.mpr (.inr hq)))))))⟩
  · rw [List.map_append]
    exact DatAll.append (hd.mono fun q hq => List.mem_append.mpr (.inr hq)) (DatAll.one (dp9.mono fun q hq => List.mem_append.mpr (.inl hq)))
  · simp only [List.length_append, List.length_cons, List.length_nil] at hn ⊢
    omega
  · intro q hq
    rcases List.mem_append.mp hq with hq | hq
    · exact hb q hq
    · rw [List.mem_singleton.mp hq]; exact bp9
theorem menu_q {l : Led} {r : Value} (a : Int) (b : Nat) (h : DatIn l r (.tuple [.int a, .int (Int.ofNat b)])) (hb : b ≠ 0 ∧ a.natAbs.Coprime b) (hs : a.natAbs < 2 ^ 2 ∧ b < 2 ^ 2) : ∃ q, DatIn l r (qd q) ∧ Bd 2 q :=
  ⟨⟨a, b, hb.1, hb.2⟩, h, Bits.of hs.1, Bits.of (by simpa using hs.2)⟩
end
section
theorem snocD {n : Led} {vs : List Value} {ds : List Dat} {d : Dat} (r : DatAll n vs (ds ++ [d])) : ∃ us v, vs = us ++ [v] ∧ DatIn n v d := by
  have hl := r.length
  rcases List.eq_nil_or_concat vs with rfl | ⟨us, v, e⟩
  · simp at hl
  · rw [List.concat_eq_append] at e
    subst e
    obtain ⟨es, d', e', _, h⟩ := DatAll.snoc r
    cases (List.append_inj' e' rfl).2
    exact ⟨us, v, rfl, h⟩
section
variable {w : World} {A : Around} {env : Env} {h₀ : Heap} {L : Addr} {m : Str → Option Value} {aux base : Led} {e1 e2 : PySem.Expr} {es : List PySem.Expr} {d : Dat} {ds : List Dat} {p p2 : Pos} {i : Int} {c j : Nat}
theorem dv_list (a : DvA w A env h₀ L m aux base es ds) (hl : ds.length ≤ 60) : Dv w A env h₀ L m aux base (.List es p) (.list ds) := ⟨fun _ => rfl, fun F N sb q =>
  List_ (a.run F N sb fun vs tl h' tk F' N' o D => newList_K F' N' (fun X h2 F2 N2 l => q _ ((X, _) :: tl) _ _ F2 N2 (Ord.cons (allLt_of fun p hp => l p (List.mem_append.mpr (.inr hp))) o) (DatIn.list (.head _) (D.mono fun _ h => .tail _ h)))
    (by rw [D.length, sizeLine_eq]; exact Nat.le_trans hl (by decide)))⟩
/-- e[0] of a list -/
theorem dv_itemL0 (h1 : Dv w A env h₀ L m aux base e1 (.list (d :: ds))) : Dv w A env h₀ L m aux base (.Subscript e1 (.Constant (.int 0) c p2) p) d := ⟨fun _ => rfl, fun F N sb q => by
  refine Subscript_ (h1.run F N sb fun u tl h' tk F' N' o D => ?_)
  obtain ⟨a, n, vs, rfl, hm, r⟩ := lst_open D
  obtain ⟨v, r2, rfl, hd, _⟩ := dall_cons r
  refine wpAny_Constant_int ?_
  exact item_lst N' (subL sb.b _ hm) (by decide) (by decide) rfl (q v tl h' _ F' N' o hd) (by with_unfolding_all rfl)⟩
/-- e[-1] -/
theorem dv_last {k : Nat} {p3 : Pos} (h1 : Dv w A env h₀ L m aux base e1 (.tuple (ds ++ [d]))) : Dv w A env h₀ L m aux base (.Subscript e1 (.UnaryOp .USub (.Constant (.int 1) k p2) p3) p) d := ⟨fun _ => rfl, fun F N sb q => by
  refine Subscript_ (h1.run F N sb fun u tl h' tk F' N' o D => ?_)
  obtain ⟨a, n, vs, rfl, hm, r⟩ := tup_open D
  obtain ⟨us, v, rfl, hd⟩ := snocD r
  refine wpAny_UnaryOp (wpAny_Constant_int (neg_int ?_))
  exact item_tupLast N' (subL sb.b _ hm) ⟨us, rfl⟩ (q v tl h' _ F' N' o hd) (by with_unfolding_all rfl)⟩
theorem dv_lastL {k : Nat} {p3 : Pos} (h1 : Dv w A env h₀ L m aux base e1 (.list (ds ++ [d]))) : Dv w A env h₀ L m aux base (.Subscript e1 (.UnaryOp .USub (.Constant (.int 1) k p2) p3) p) d := ⟨fun _ => rfl, fun F N sb q => by
  refine Subscript_ (h1.run F N sb fun u tl h' tk F' N' o D => ?_)
  obtain ⟨a, n, vs, rfl, hm, r⟩ := lst_open D
  obtain ⟨us, v, rfl, hd⟩ := snocD r
  refine wpAny_UnaryOp (wpAny_Constant_int (neg_int ?_))
  exact item_lstLast N' (subL sb.b _ hm) ⟨us, rfl⟩ (q v tl h' _ F' N' o hd) (by with_unfolding_all rfl)⟩
end
end
section
theorem bool_open {n : Led} {v : Value} {b : Bool} (h : DatIn n v (.bool b)) : v = .bool b := by
  cases h with
  | bool => rfl
section
variable {w : World} {mean : ExcName → Option Value} {mg mb : Str → Option Value} {c : List Pt} {p0 : Pt} {ps : List Pt}
theorem con_dirF (hc : c = p0 :: ps) (hl : LenOk c.length) (bc : ∀ p ∈ c, Bp 900 p) (l : Led) (v : Value) (vs : List Value) (h : DatIn l v (cvd c)) (r : DatAll l vs []) : Gives w mean mg mb 14 128 l l (v :: vs) (fun l r => DatIn l r (pd (dirF p0 ps))) := by
  cases dall_nil r
  exact ct_dirF hc h hl (by rw [← hc]; exact bc)
theorem con_dirE (hc : c.reverse = p0 :: ps) (hl : LenOk c.length) (bc : ∀ p ∈ c, Bp 900 p) (l : Led) (v : Value) (vs : List Value) (h : DatIn l v (cvd c)) (r : DatAll l vs [.bool true]) : Gives w mean mg mb 14 128 l l (v :: vs) (fun l r => DatIn l r (pd (dirE p0 ps))) := by
  obtain ⟨u, vr, rfl, h2, r9⟩ := dall_cons r
  cases dall_nil r9
  rw [bool_open h2]
  exact ct_dirE hc h hl (by rw [← hc]; exact fun p hp => bc p (List.mem_reverse.mp hp))
end
/-! the first unlike point, over data -/
noncomputable def unl (p0 : Pt) (d : Dat) : Bool := @decide (d ≠ pd p0) (Classical.propDecidable _)
theorem unl_iff {p0 : Pt} {d : Dat} : d = pd p0 ↔ ¬ unl p0 d = true := by
  unfold unl
  rw [@decide_eq_true_eq _ (Classical.propDecidable _)]
  exact Classical.not_not.symm
theorem unl_pd {p p0 : Pt} : unl p0 (pd p) = true ↔ p ≠ p0 := by
  unfold unl
  rw [@decide_eq_true_eq _ (Classical.propDecidable _)]
  exact not_congr pd_iff
theorem flt_none {p0 : Pt} {l : List Pt} (h : ∀ q ∈ l, q = p0) : (l.map pd).filter (unl p0) = [] := by
  rw [List.filter_eq_nil_iff]
  intro d hd
  obtain ⟨q, hq, rfl⟩ := List.mem_map.mp hd
  exact fun k => unl_pd.mp k (h q hq)
theorem flt_first {p0 : Pt} : ∀ {l : List Pt}, (∃ q ∈ l, q ≠ p0) → ∃ q r, (l.map pd).filter (unl p0) = pd q :: r ∧ q ∈ l ∧ dirF p0 l = psub q p0 ∧ dirE p0 l = pneg (psub q p0)
  | [], h => by obtain ⟨q, hq, _⟩ := h; cases hq
  | a :: l, h => by
    by_cases ha : a ≠ p0
    · exact ⟨a, _, by rw [List.map_cons, List.filter_cons_of_pos (unl_pd.mpr ha)], .head _, by rw [dirF, if_pos ha], by rw [dirE, if_pos ha]⟩
    · obtain ⟨q, hq, hn⟩ := h
      have hq' : q ∈ l := by
        rcases List.mem_cons.mp hq with rfl | hq
        · exact absurd hn ha
        · exact hq
      obtain ⟨e, r, h1, h2, h3, h4⟩ := flt_first ⟨q, hq', hn⟩
      exact ⟨e, r, by rw [List.map_cons, List.filter_cons_of_neg (fun k => ha (unl_pd.mp k)), h1], .tail _ h2, by rw [dirF, if_neg ha, h3], by rw [dirE, if_neg ha, h4]⟩
theorem flt_last {p0 : Pt} {l : List Pt} (h : ∃ q ∈ l.reverse, q ≠ p0) : ∃ q r, (l.map pd).filter (unl p0) = r ++ [pd q] ∧ q ∈ l ∧ dirE p0 l.reverse = pneg (psub q p0) := by
  obtain ⟨q, r, h1, h2, _, h4⟩ := flt_first h
  refine ⟨q, r.reverse, ?_, List.mem_reverse.mp h2, h4⟩
  rw [List.map_reverse, List.filter_reverse] at h1
  have := congrArg List.reverse h1
  simpa using this
end
section
section
variable {w : World} {mean : ExcName → Option Value} {mg mb : Str → Option Value} {A : Around} {cn : Str} {cs : Scope} {a : Addr} {ccd : Value} {cl : List (Str × Addr)} {h₀ : Heap} {L : Addr} {m : Str → Option Value} {aux base : Led} {x : Str} {p pf : Pos} {e1 : PySem.Expr} {ds : List Dat}
/-- list(a tuple) -/
theorem dv_listOf (X : (hd.heap_39 w.params).In h₀) (T : Top hd.view_39 (looseW hd.view_39 [Str.ofString "fraction", Str.ofString "direction"]) mean mg mb h₀) (hk : cs.kind = .function)
    (hg : nsIn (hd.heap_39 w.params) mainGlobals x = some none) (hv : bootBuiltins x = some (.type "list")) (hn : x ≠ "__name__") (hx : (envX cn cs L a ccd cl).kindOf x = some .globalImplicit) (hb : (x == ("__debug__" : Str)) = false)
    (he : eval (.Call (.Name x pf) [e1] [] p) (envX cn cs L a ccd cl) = (do callWith p (← eval (.Name x pf) (envX cn cs L a ccd cl)) [] (backTo p (starEach [e1] (envX cn cs L a ccd cl))) (backToKw p (keywordEach [] (envX cn cs L a ccd cl)))))
    (h1 : Dv w A (envX cn cs L a ccd cl) h₀ L m aux base e1 (.tuple ds)) (hl : ds.length ≤ 60) : Dv w A (envX cn cs L a ccd cl) h₀ L m aux base (.Call (.Name x pf) [e1] [] p) (.list ds) := ⟨fun _ => rfl, fun F N sb q => by
  refine Call_ (nameX_B F X (topRead_of T) hg hv hn ?_ hk hx hb) he
  refine Pv.callWith_type1 ?_ (h1.star _) rfl
  refine (dvA_cons h1 dvA_nil).run F N sb fun vs tl h' tk F' N' o D => ?_
  obtain ⟨v, r, rfl, hv, hr⟩ := dall_cons D
  cases dall_nil hr
  obtain ⟨b, n, us, rfl, hm, hu⟩ := tup_open hv
  refine kup_listOfT (zs := us) F' N' (subL sb.b _ hm) rfl (fun X2 c2 h2 F2 N2 l => q _ ((X2, _) :: tl) _ _ F2 N2 (Ord.cons (allLt_of fun p hp => l p (List.mem_append.mpr (.inr hp))) o) (DatIn.list (.head _) (hu.mono fun _ h => .tail _ h))) ?_
  show us.length ≤ sizeLine
  rw [hu.length, sizeLine_eq]
  exact Nat.le_trans hl (by decide)⟩
end
end
section
section
variable {w : World} {A : Around} {env : Env} {h₀ : Heap} {L : Addr} {m : Str → Option Value} {aux base led : Led} {e1 e2 : PySem.Expr} {d1 d2 : Dat} {p pos : Pos} {body orelse : List Stmt} {s : Shared} {Q : Flow → Shared → Prop} {E : Value → Shared → Prop}
/-- if e1 == e2 .. else .. over data -/
theorem dv_ifEq (_ : BaseIs aux base) (F : Fr h₀ L s.heap m) (N : News h₀ L s.heap led) (sa : ∀ p ∈ aux, p ∈ led) (sb : ∀ p ∈ base, p ∈ led) (P : Prop) (h1 : Dv w A env h₀ L m aux base e1 d1) (h2 : Dv w A env h₀ L m aux base e2 d2) (k1 : kqdOk 9 d1 = true) (k2 : kqdOk 9 d2 = true) (hP : d1 = d2 ↔ P) (hm : behindInMarks .Eq e2 = false) (hu : A.units + 64 < cLine)
    (y : P → ∀ tl h' tk, Fr h₀ L h' m → News h₀ L h' (tl ++ led) → Ord led tl → wpAny (model PG w) A (execs body env) Q E { s with heap := h', toks := tk })
    (n : ¬ P → ∀ tl h' tk, Fr h₀ L h' m → News h₀ L h' (tl ++ led) → Ord led tl → wpAny (model PG w) A (execs orelse env) Q E { s with heap := h', toks := tk }) :
    Wq (wpAny (model PG w) A (exec (.If (.Compare e1 [.Eq] [e2] p) body orelse pos) env) Q E s) := ⟨by
  refine wpAny_If (wpAny_isTrue_Compare1 (dv_two h1 h2 F N ⟨sa, sb⟩ fun v u tl h' tk F' N' o D D2 => ?_) hm)
  refine @dat_eq _ _ _ _ _ _ _ _ _ _ _ _ _ _ _ P (Classical.propDecidable P) N' D (fun _ h => h) D2 (fun _ h => h) k1 k2 hP hu (wpAny_truthy_bool ?_)
  by_cases hp : P
  · rw [@decide_eq_true _ (Classical.propDecidable P) hp]
    simp only [if_true]
    exact y hp tl h' tk F' N' o
  · rw [@decide_eq_false _ (Classical.propDecidable P) hp]
    simp only [Bool.false_eq_true, if_false]
    exact n hp tl h' tk F' N' o⟩
/-- if e1 != e2 .. else .. over data -/
theorem dv_ifNe (_ : BaseIs aux base) (F : Fr h₀ L s.heap m) (N : News h₀ L s.heap led) (sa : ∀ p ∈ aux, p ∈ led) (sb : ∀ p ∈ base, p ∈ led) (P : Prop) (h1 : Dv w A env h₀ L m aux base e1 d1) (h2 : Dv w A env h₀ L m aux base e2 d2) (k1 : kqdOk 9 d1 = true) (k2 : kqdOk 9 d2 = true) (hP : d1 = d2 ↔ ¬ P) (hm : behindInMarks .NotEq e2 = false) (hu : A.units + 64 < cLine)
    (y : P → ∀ tl h' tk, Fr h₀ L h' m → News h₀ L h' (tl ++ led) → Ord led tl → wpAny (model PG w) A (execs body env) Q E { s with heap := h', toks := tk })
    (n : ¬ P → ∀ tl h' tk, Fr h₀ L h' m → News h₀ L h' (tl ++ led) → Ord led tl → wpAny (model PG w) A (execs orelse env) Q E { s with heap := h', toks := tk }) :
    Wq (wpAny (model PG w) A (exec (.If (.Compare e1 [.NotEq] [e2] p) body orelse pos) env) Q E s) := ⟨by
  refine wpAny_If (wpAny_isTrue_Compare1 (dv_two h1 h2 F N ⟨sa, sb⟩ fun v u tl h' tk F' N' o D D2 => ?_) hm)
  refine @dat_ne _ _ _ _ _ _ _ _ _ _ _ _ _ _ _ P (Classical.propDecidable P) N' D (fun _ h => h) D2 (fun _ h => h) k1 k2 hP hu (wpAny_truthy_bool ?_)
  by_cases hp : P
  · rw [@decide_eq_true _ (Classical.propDecidable P) hp]
    simp only [if_true]
    exact y hp tl h' tk F' N' o
  · rw [@decide_eq_false _ (Classical.propDecidable P) hp]
    simp only [Bool.false_eq_true, if_false]
    exact n hp tl h' tk F' N' o⟩
end
theorem con_way {w : World} {mean : ExcName → Option Value} {mg mb : Str → Option Value} {p q d : Pt} (hr : d = psub q p) (sp : Bp 900 p) (sq : Bp 900 q) (l : Led) (v : Value) (vs : List Value) (h : DatIn l v (pd d)) (r : DatAll l vs [pd p, pd q]) : Gives w mean mg mb 14 187 l l (v :: vs) (fun l r => DatIn l r (.bool true)) := by
  obtain ⟨u, vr, rfl, h2, r9⟩ := dall_cons r
  obtain ⟨u3, vr, rfl, h3, r9⟩ := dall_cons r9
  cases dall_nil r9
  have k := ct_wayX (w := w) (mean := mean) (mg := mg) (mb := mb) h hr h2 h3 sp sq
  unfold Gives at k ⊢
  intro dp un gd cn cs a ccd cl outer A₀ base h₀ L m s nw Q E B F X N T hk hn hd hu hret
  exact k dp un gd cn cs a ccd cl outer A₀ base h₀ L m s nw Q E B F X N T hk hn hd hu fun r tl h' tk' F' N' o y => hret r tl h' tk' F' N' o (by
    have e : r = .bool true := y
    rw [e]
    exact DatIn.bool true)
end
section
open PyProof.Rows.LCg (NsObj lst)
section
variable {w : World} {A : Around} {h₀ : Heap} {L a : Addr} {m : Str → Option Value} {aux base led : Led} {cn : Str} {cs scope : Scope} {ccd : Value} {cl cl2 : List (Str × Addr)} {x y : Str} {eltE iter : PySem.Expr} {f : Dat → Dat} {ds : List Dat} {s : Shared} {Q : Flow → Shared → Prop} {E : Value → Shared → Prop} {px py pos spos : Pos}
/-- y = [f x for x in a list], a name of the frame's own -/
theorem dv_setL (_ : BaseIs aux base) (F : Fr h₀ L s.heap m) (N : News h₀ L s.heap led) (sa : ∀ p ∈ aux, p ∈ led) (sb : ∀ p ∈ base, p ∈ led)
    (hsw : swapsWith (.ListComp eltE [⟨.Name x px, iter, [], 0⟩] scope pos) (some (.Name y py)) spos.line (envX cn cs L a ccd cl) = pure true)
    (hclos : closureFor scope (envX cn cs L a ccd cl) = pure cl2) (hcell : ∀ y ∈ scope.names, y.2 ≠ .cell) (hkind : scope.kind = .function) (hnames : ∀ y ∈ scope.names, y.2 = .local → scope.names.lookup y.1 = some .local) (hx : scope.names.lookup x = some .local) (hh : A.handled = none)
    (hy : (envX cn cs L a ccd cl).kindOf y = some .local) (hp : ((envX cn cs L a ccd cl).scope.kind == .class || ((envX cn cs L a ccd cl).scope.kind == .module && (envX cn cs L a ccd cl).locals != (envX cn cs L a ccd cl).globals)) = false)
    (src : Dv w A (envX cn cs L a ccd cl) h₀ L m aux base iter (.list ds)) (hl : ds.length ≤ 60) (hs : ∀ x, foldedSetIterable iter (envX cn cs L a ccd cl) x = pure x) (elt : EltOk w A (envX cn cs L a ccd cl) h₀ L m aux base scope cl2 x eltE f ds)
    (q : ∀ v tl h' tk, Fr h₀ L h' (fun z => if z = y then some v else m z) → News h₀ L h' (tl ++ led) → Ord led tl → DatIn (tl ++ base) v (.list (ds.map f)) → Q .next { s with heap := h', toks := tk }) :
    Wq (wpAny (model PG w) A (exec (.Assign [.Name y py] (.ListComp eltE [⟨.Name x px, iter, [], 0⟩] scope pos) spos) (envX cn cs L a ccd cl)) Q E s) := ⟨by
  refine comp_assign F hsw hclos hcell hkind hnames hy hp (src.run F N ⟨sa, sb⟩ fun u tl h' tk F' N' o D => ?_) hs
  obtain ⟨b, n, vs, rfl, hm, r⟩ := lst_open D
  have sub : ∀ p ∈ tl ++ base, p ∈ tl ++ led := fun p hp => (List.mem_append.mp hp).elim (fun h => List.mem_append.mpr (.inl h)) fun h => List.mem_append.mpr (.inr (sb p h))
  refine comp_list hh F' N' (sub _ hm) hkind hx (by rw [r.length]; exact Nat.le_trans hl (by decide)) fun I s₂ hs₂ => ?_
  obtain ⟨h₂, rfl⟩ := hs₂
  refine crest_dv r (fun p hp => List.mem_append.mpr (.inr (sa p hp))) (fun p hp => List.mem_append.mpr (.inr hp)) sub elt fun ys t o2 D2 => ?_
  intro X h9 tk9 F9 N9 _ l1
  refine q (.ref X) ((X, lst ys) :: (t ++ tl)) h9 tk9 F9 (by rw [List.cons_append, List.append_assoc]; exact N9) (Ord.cons (allLt_append.mp l1).2 (Ord.app (Ord.sub o2 fun p hp => List.mem_append.mpr (.inr hp)) o)) ?_
  have D' : DatAll ((t ++ tl) ++ base) ys (ds.map f) := by rw [List.append_assoc]; exact D2
  exact DatIn.list (.head _) (D'.mono fun p hp => .tail _ hp)⟩
end
section
variable {w : World} {A : Around} {env : Env} {h₀ : Heap} {L : Addr} {m : Str → Option Value} {aux base : Led} {e1 e2 : PySem.Expr} {b1 b2 : Bool} {ds : List Dat} {p p1 p2 p3 p4 : Pos} {x : Str} {k : Nat}
theorem dv_and (h1 : Dv w A env h₀ L m aux base e1 (.bool b1)) (h2 : Dv w A env h₀ L m aux base e2 (.bool b2)) : Dv w A env h₀ L m aux base (.BoolOp .And [e1, e2] p) (.bool (b1 && b2)) := ⟨fun _ => rfl, fun F N sb q => by
  refine wpAny_And2 (h1.run F N sb fun v tl h' tk F' N' o D => ?_)
  cases bool_open D
  refine wpAny_truthy_bool ?_
  cases b1
  · exact q (.bool false) tl h' tk F' N' o (.bool false)
  · exact h2.run F' N' (sub_app sb) fun u tl2 h2 tk2 F2 N2 o2 D2 => by
      cases bool_open D2
      exact q (.bool b2) (tl2 ++ tl) h2 tk2 F2 (by rw [List.append_assoc]; exact N2) (Ord.app (Ord.sub o2 fun p hp => List.mem_append.mpr (.inr hp)) o) (.bool b2)⟩
/-- x[::-1] of a tuple -/
theorem dv_rev (h1 : Dv w A env h₀ L m aux base (.Name x p1) (.tuple ds)) (hl : ds.length ≤ 60) : Dv w A env h₀ L m aux base (.Subscript (.Name x p1) (.Slice none none (some (.UnaryOp .USub (.Constant (.int 1) k p2) p3)) p4) p) (.tuple ds.reverse) := ⟨fun _ => rfl, fun F N sb q => by
  refine Subscript_ (h1.run F N sb fun u tl h' tk F' N' o D => ?_)
  obtain ⟨a, n, vs, rfl, hm, r⟩ := tup_open D
  refine wpAny_Slice ?_
  rw [evalPart_none, evalPart_some]
  refine wpAny_pure (wpAny_pure (wpAny_UnaryOp (wpAny_Constant_int (neg_int ?_))))
  refine tup_rev F' N' (subL sb.b _ hm) rfl (fun X h2 F2 N2 l => q _ ((X, _) :: tl) _ _ F2 N2 (Ord.cons (allLt_of fun p hp => l p (List.mem_append.mpr (.inr hp))) o) (DatIn.tuple (.head _) (DatAll.mono (fun _ h => .tail _ h) (dall_rev r)))) (by with_unfolding_all rfl) (fun _ => rfl) (by rw [r.length]; exact Nat.le_trans hl (by decide))⟩
end
end
section
theorem flt_ok {c : List Pt} {p0 : Pt} : kqdOk 9 (.list ((c.map pd).filter (unl p0))) = true := by
  simp only [kqdOk, List.all_eq_true, List.mem_filter, List.mem_map]
  rintro x ⟨⟨p, _, rfl⟩, _⟩
  exact pd_ok 6 p
theorem flt_iff {c : List Pt} {p0 : Pt} : Dat.list ((c.map pd).filter (unl p0)) = .list [] ↔ ∀ q ∈ c, q = p0 := by
  rw [Dat.list.injEq, List.filter_eq_nil_iff]
  constructor
  · intro h q hq
    exact Classical.byContradiction fun k => h (pd q) (List.mem_map.mpr ⟨q, hq, rfl⟩) (unl_pd.mpr k)
  · intro h d hd
    obtain ⟨q, hq, rfl⟩ := List.mem_map.mp hd
    exact fun k => unl_pd.mp k (h q hq)
theorem dirF_same {p0 : Pt} : ∀ {ps : List Pt}, (∀ q ∈ ps, q = p0) → dirF p0 ps = (0, 0)
  | [], _ => rfl
  | q :: r, h => by rw [dirF, if_neg (by simp [h q (.head _)])]; exact dirF_same fun q hq => h q (.tail _ hq)
theorem dirE_same {p0 : Pt} : ∀ {ps : List Pt}, (∀ q ∈ ps, q = p0) → dirE p0 ps = (0, 0)
  | [], _ => rfl
  | q :: r, h => by rw [dirE, if_neg (by simp [h q (.head _)])]; exact dirE_same fun q hq => h q (.tail _ hq)
theorem dirF_self {p0 : Pt} {ps : List Pt} : dirF p0 (p0 :: ps) = dirF p0 ps := by rw [dirF, if_neg (by simp)]
theorem dirE_self {p0 : Pt} {ps : List Pt} : dirE p0 (p0 :: ps) = dirE p0 ps := by rw [dirE, if_neg (by simp)]
/-- the ways of a curve with unlike points -/
theorem ways {c : List Pt} {p0 pl : Pt} {ps pls : List Pt} (hc : c = p0 :: ps) (hr : c.reverse = pl :: pls) (hs : ¬ ∀ q ∈ c, q = p0) :
    (∃ q r, (c.map pd).filter (unl p0) = pd q :: r ∧ q ∈ c ∧ dirF p0 ps = psub q p0) ∧ (∃ q r, (c.map pd).filter (unl pl) = r ++ [pd q] ∧ q ∈ c ∧ dirE pl pls = psub pl q) := by
  have hml : pl ∈ c := by rw [← List.mem_reverse, hr]; exact .head _
  have h1 : ∃ q ∈ c, q ≠ p0 := Classical.byContradiction fun h => hs fun q hq => Classical.byContradiction fun k => h ⟨q, hq, k⟩
  have h2 : ∃ q ∈ c.reverse, q ≠ pl := Classical.byContradiction fun h => by
    have key : ∀ q ∈ c, q = pl := fun q hq => Classical.byContradiction fun k => h ⟨q, List.mem_reverse.mpr hq, k⟩
    exact hs fun q hq => (key q hq).trans (key p0 (by rw [hc]; exact .head _)).symm
  obtain ⟨q, r, e, m, a, _⟩ := flt_first h1
  obtain ⟨q2, r2, e2, m2, a2⟩ := flt_last h2
  rw [hc, dirF_self] at a
  rw [hr, dirE_self, pneg_psub] at a2
  exact ⟨⟨q, r, e, m, a⟩, ⟨q2, r2, e2, m2, a2⟩⟩
theorem zz_ok (p q : Pt) : kqdOk 9 (.tuple [pd p, pd q]) = true := by
  simp only [kqdOk, List.all_cons, List.all_nil, Bool.and_true, Bool.and_eq_true]
  exact ⟨pd_ok 6 p, pd_ok 6 q⟩
theorem zz_iff {c : List Pt} {p0 pl : Pt} {ps pls : List Pt} (hc : c = p0 :: ps) (hr : c.reverse = pl :: pls) (hs : ∀ q ∈ c, q = p0) :
    (Dat.tuple [pd (dirF p0 ps), pd (dirE pl pls)] = .tuple [.tuple [.tuple [.int 0, .int 1], .tuple [.int 0, .int 1]], .tuple [.tuple [.int 0, .int 1], .tuple [.int 0, .int 1]]]) ↔ ¬ False := by
  have a : dirF p0 ps = (0, 0) := dirF_same fun q hq => hs q (by rw [hc]; exact .tail _ hq)
  have b : dirE pl pls = (0, 0) := dirE_same fun q hq => by
    have m : ∀ q, q ∈ pl :: pls → q = p0 := fun q hq => hs q (by rw [← List.mem_reverse, hr]; exact hq)
    rw [m q (.tail _ hq), m pl (.head _)]
  rw [a, b]
  exact ⟨fun _ h => h, fun _ => rfl⟩
theorem cut_flow {w : World} {A : Around} {h₀ : Heap} {L : Addr} {m : Str → Option Value} {led : Led} {t : Sem Flow} {s : Shared} {Q : Flow → Shared → Prop} {E : Value → Shared → Prop} (_ : Fr h₀ L s.heap m) (_ : News h₀ L s.heap led)
    (h : ∀ Q' : Flow → Shared → Prop, (∀ tl h' tk, Fr h₀ L h' m → News h₀ L h' (tl ++ led) → Ord led tl → Q' .next { s with heap := h', toks := tk }) → wpAny (model PG w) A t Q' E s)
    (q : ∀ tl h' tk, Fr h₀ L h' m → News h₀ L h' (tl ++ led) → Ord led tl → Q .next { s with heap := h', toks := tk }) : wpAny (model PG w) A t Q E s :=
  h Q q
def negF : Dat → Dat
  | .tuple [.int x, .int y] => .tuple [.int (-x), .int y]
  | d => d
def oppF : Dat → Dat
  | .tuple ds => .list (ds.map negF)
  | d => d
theorem rev_ok (c : List Pt) : kqdOk 9 (.tuple (c.map pd).reverse) = true := by
  rw [← List.map_reverse]
  exact cvd_ok _
theorem rev_iff (c : List Pt) : cvd c.reverse = .tuple (c.map pd).reverse ↔ True := by
  rw [← List.map_reverse]
  exact ⟨fun _ => trivial, fun _ => rfl⟩
theorem oppF_eq {p q : Pt} (h : -p.1.num = q.1.num ∧ (p.1.den : Int) = (q.1.den : Int) ∧ -p.2.num = q.2.num ∧ (p.2.den : Int) = (q.2.den : Int)) : oppF (pd p) = .list [qd q.1, qd q.2] := by
  show Dat.list [.tuple [.int (-p.1.num), .int p.1.den], .tuple [.int (-p.2.num), .int p.2.den]] = .list [.tuple [.int q.1.num, .int q.1.den], .tuple [.int q.2.num, .int q.2.den]]
  rw [h.1, h.2.1, h.2.2.1, h.2.2.2]
theorem opp_ok2 (a b c d : Rat) : kqdOk 9 (.list [.list [qd a, qd b], .list [qd c, qd d]]) = true := by simp [kqdOk, qd]
theorem opp_iff {p q r u : Pt} (h : -p.1.num = q.1.num ∧ (p.1.den : Int) = (q.1.den : Int) ∧ -p.2.num = q.2.num ∧ (p.2.den : Int) = (q.2.den : Int)) (k : -r.1.num = u.1.num ∧ (r.1.den : Int) = (u.1.den : Int) ∧ -r.2.num = u.2.num ∧ (r.2.den : Int) = (u.2.den : Int)) :
    (Dat.list [oppF (pd p), oppF (pd r)] = .list [.list [qd q.1, qd q.2], .list [qd u.1, qd u.2]]) ↔ True := by
  rw [oppF_eq h, oppF_eq k]
  exact ⟨fun _ => trivial, fun _ => rfl⟩
theorem opp_ok1 {p q r u : Pt} (h : -p.1.num = q.1.num ∧ (p.1.den : Int) = (q.1.den : Int) ∧ -p.2.num = q.2.num ∧ (p.2.den : Int) = (q.2.den : Int)) (k : -r.1.num = u.1.num ∧ (r.1.den : Int) = (u.1.den : Int) ∧ -r.2.num = u.2.num ∧ (r.2.den : Int) = (u.2.den : Int)) :
    kqdOk 9 (Dat.list [oppF (pd p), oppF (pd r)]) = true := by
  rw [oppF_eq h, oppF_eq k]
  exact opp_ok2 ..
theorem two_pd {d : Dat} {a b : Pt} (h : d ∈ [pd a, pd b]) : ∃ r, d = pd r := by
  rcases List.mem_cons.mp h with h | h
  · exact ⟨a, h⟩
  · exact ⟨b, List.mem_singleton.mp h⟩
theorem two_qd {d : Dat} {a b : Rat} (h : d ∈ [qd a, qd b]) : ∃ r, d = qd r := by
  rcases List.mem_cons.mp h with h | h
  · exact ⟨a, h⟩
  · exact ⟨b, List.mem_singleton.mp h⟩
theorem dv_neg2 {w : World} {A : Around} {env : Env} {h₀ : Heap} {L : Addr} {m : Str → Option Value} {aux base : Led} {e1 e2 : PySem.Expr} {x : Rat} {k c1 c2 : Nat} {p p1 p2 p3 p4 p5 : Pos} (a : Dv w A env h₀ L m aux base e1 (qd x)) (b : Dv w A env h₀ L m aux base e2 (qd x)) :
    Dv w A env h₀ L m aux base (.Tuple [.UnaryOp .USub (.Subscript e1 (.Constant (.int 0) c1 p1) p2) p3, .Subscript e2 (.Constant (.int 1) c2 p4) p5] k p) (negF (qd x)) :=
  dv_tuple (dvA_cons (dv_neg (dv_item0 (ds := [.int x.den]) a)) (dvA_cons (dv_item (ds := [.int x.num, .int x.den]) b (by decide) (by exact rfl) (by exact rfl)) dvA_nil)) (by exact Nat.le_of_ble_eq_true rfl)
theorem reg17 : True := by
  k_with_none
  k_with "kcj_q" => first
    | exact List.mem_cons_self
    | (refine List.mem_cons_of_mem _ ?_; k_extra "kcj_q")
    | (refine List.mem_append.mpr (Or.inr ?_); k_extra "kcj_q")
    | (refine List.mem_append.mpr (Or.inl ?_); k_extra "kcj_q")
    | assumption
    | exact sub_use (by assumption) (by assumption)
  k_with "kd_suf" => first
    | with_reducible exact fun _ h => h
    | (refine sub_cons ?_; k_extra "kd_suf")
    | (refine sub_appR ?_; k_extra "kd_suf")
  k_with "kd_subs" => first
    | k_extra "kd_suf"
    | exact List.forall_mem_nil _
    | assumption
    | (refine List.forall_mem_cons.mpr ⟨?_, ?_⟩; (focus k_extra "kcj_q"); kd_subs)
    | (refine List.forall_mem_append.mpr ⟨?_, ?_⟩; (focus kd_subs); kd_subs)
    | (refine sub_cons ?_; kd_subs)
    | (refine sub_appR ?_; kd_subs)
    | (refine sub_appL ?_; kd_subs)
  k_with "ktn_lt" => first | assumption | exact allLt_of (by assumption) | exact alt1 (by assumption) | exact alt2 (by assumption) | exact alt3 (by assumption) | exact alt4 (by assumption) | exact alt5 (by assumption) | exact alt6 (by assumption)
  k_with "ktn_ord" => first
    | exact Ord.nil
    | assumption
    | (refine Ord.app ?_ ?_ <;> ktn_ord)
    | (refine Ord.lt (by ktn_lt) ?_ ?_; (focus kcj_in); ktn_ord)
    | (refine Ord.le (by ktn_lt) ?_ (by omega) ?_; (focus kcj_in); ktn_ord)
    | (refine Ord.sub (by assumption) ?_; kcj_in)
  k_with "ktr_rel" => first | assumption | (refine DatIn.mono ?_ (by assumption); kd_subs)
  k_with "ktr_enter" => first
    | (refine' code_def (by k_asm) (by k_asm) (by k_asm) (by k_asm) (by k_asm) rfl rfl (by first | assumption | exact rfl) (by k_is) (by k_is) (by k_extra "my room") (by first | exact BindsTo.of_eq rfl | exact binds_K (by k_in) rfl (by k_is) rfl rfl rfl | fail "no rule for these arguments") (locs rfl) ?_ rfl rfl rfl (by decide); k_whole; intro g' L' h' FG' F' N' B' X' T'; (try dsimp only); (try k_fold))
    | (refine' code_defC (by k_asm) (by k_asm) (by k_asm) (by k_asm) (by k_asm) rfl rfl (by first | assumption | exact rfl) (by k_is) (by k_is) (by k_extra "my room") (by first | exact BindsTo.of_eq rfl | exact binds_K (by k_in) rfl (by k_is) rfl rfl rfl | fail "no rule for these arguments") rfl (by decide +kernel) ?_ rfl rfl rfl; k_whole; intro g' L' h' tk' cells' FG' F' N' Y' B' X' T' l1; (try k_lt l1); k_cells Y'; (try simp only [List.cons_append, List.nil_append] at N'); (try dsimp only); (try k_fold))
  k_with "my gend" => (refine' gend (by assumption) (by assumption) (by assumption) (by repeat' (first | exact Split.base0 | refine' Split.skip ?_ | refine' Split.appO (by assumption) ?_ | refine' Split.own ?_)) (by ktn_ord) ?_)
  k_with "my end0" => (refine' gend0 (by assumption) (by assumption) (by assumption) (by kd_subs) ?_; (try unfold Says))
  k_with "my dats" => first | exact DatAll.nil | assumption | (refine DatAll.mono ?_ (by assumption); kd_subs) | (refine DatAll.cons ?_ ?_; (focus k_extra "my dat"); k_extra "my dats")
  k_with "my dat" => first
    | exact DatIn.int _ _
    | assumption
    | (refine DatIn.mono ?_ (by assumption); kd_subs)
    | exact DatIn.tuple (by k_extra "kcj_q") (by k_extra "my dats")
    | exact DatIn.list (by k_extra "kcj_q") (by k_extra "my dats")
  k_with "my rel" => (refine DatIn.mono ?_ (by assumption); kd_subs)
  k_with "my room" => first | exact room1 (by assumption) (by exact rfl) | exact room0 (by assumption) (by exact rfl) | ktr_room
  k_with "my units" => first | exact units1 (by assumption) (by exact rfl) | exact units0 (by assumption) (by exact rfl) | ktr_units
  k_with "my ne" => first | exact ne_gtR (by assumption) (by k_extra "kcj_q") | exact ne_ltR (by assumption) (by k_extra "kcj_q") | k_ne
  k_with "newTuple" => (k_here; k_dflt (refine' kup_newTuple (by k_asm) (by k_asm) ?_ (by kmk_size)); intro D' h' F' N' l1; (try k_sweep))
  k_with "newList" => (k_here; k_dflt (refine' newList_K (by k_asm) (by k_asm) ?_ (by size_fits)); intro l' h' F' N' l1; (try k_sweep))
  k_with "my evv" => first
    | ((with_reducible show Ev _ _ _ _ _ (PySem.Expr.Name _ _) _); exact ev_name (by k_asm) (by exact rfl) (by exact rfl) (by exact rfl) (by decide))
    | ((with_reducible show Ev _ _ _ _ _ (PySem.Expr.Subscript _ (PySem.Expr.Constant _ _ _) _) _); exact ev_item (by k_asm) (by k_extra "my evv") (by k_extra "kcj_q") (by decide) (by exact rfl) (by exact rfl))
  k_with "my ev" => first
    | ((with_reducible show Ev _ _ _ _ _ (PySem.Expr.Constant _ _ _) _); exact ev_int)
    | ((with_reducible show Ev _ _ _ _ _ (PySem.Expr.Name _ _) _); exact ev_nameI (by k_asm) (by exact rfl) (by exact rfl) (by exact rfl) (by decide))
    | ((with_reducible show Ev _ _ _ _ _ (PySem.Expr.Subscript _ (PySem.Expr.Constant _ _ _) _) _); exact ev_itemI (by k_asm) (by k_extra "my evv") (by k_extra "kcj_q") (by decide) (by exact rfl) (by exact rfl))
    | ((with_reducible show Ev _ _ _ _ _ (PySem.Expr.BinOp _ PySem.Operator.Mult _ _) _); exact ev_mul (by k_extra "my ev") (by k_extra "my ev") (by mul_fits))
    | ((with_reducible show Ev _ _ _ _ _ (PySem.Expr.BinOp _ PySem.Operator.Add _ _) _); exact ev_add (by k_extra "my ev") (by k_extra "my ev"))
    | ((with_reducible show Ev _ _ _ _ _ (PySem.Expr.BinOp _ PySem.Operator.Sub _ _) _); exact ev_sub (by k_extra "my ev") (by k_extra "my ev"))
    | ((with_reducible show Ev _ _ _ _ _ (PySem.Expr.UnaryOp PySem.UnaryOp.USub _ _) _); exact ev_neg (by k_extra "my ev"))
  k_with "eval BinOp" => (k_here; k_dflt (refine' ev_runI (by k_extra "my ev") ?_); intro t' tk'; (try dsimp only))
  k_with "eval UnaryOp" => (k_here; (with_reducible show wpAny _ _ (eval (PySem.Expr.UnaryOp _ (PySem.Expr.Subscript _ _ _) _) _) _ _ _); k_dflt (refine' ev_runI (by k_extra "my ev") ?_); intro t' tk'; (try dsimp only))
  k_with "eval Subscript" => (k_here; k_dflt (refine' ev_runV (by k_extra "my evv") ?_); intro tk'; (try dsimp only))
  k_with "my bit" => first | assumption | exact Bd.nu (by assumption) | exact Bd.de (by assumption) | (k_dflt (first | exact bp_nx (by assumption) | exact bp_dx (by assumption) | exact bp_ny (by assumption) | exact bp_dy (by assumption)))
  k_with "my lit" => first
    | ((with_reducible show LitD (PySem.Expr.Constant (PySem.Const.int _) _ _) _); exact lit_int)
    | ((with_reducible show LitD (PySem.Expr.Constant (PySem.Const.str _) _ _) _); exact lit_str)
    | ((with_reducible show LitD (PySem.Expr.UnaryOp PySem.UnaryOp.USub (PySem.Expr.Constant (PySem.Const.int _) _ _) _) _); exact lit_neg)
    | ((with_reducible show LitD (PySem.Expr.Tuple _ _ _) _); exact lit_tuple (by k_extra "my lits") (by exact Nat.le_of_ble_eq_true rfl))
    | ((with_reducible show LitD (PySem.Expr.List _ _) _); exact lit_list (by k_extra "my lits") (by exact Nat.le_of_ble_eq_true rfl))
  k_with "my lits" => first
    | ((with_reducible show LitA [] _); exact litA_nil)
    | ((with_reducible show LitA (_ :: _) _); exact litA_cons (by k_extra "my lit") (by k_extra "my lits"))
  k_with "my dvs" => first
    | ((with_reducible show DvA _ _ _ _ _ _ _ _ [] _); exact dvA_nil)
    | ((with_reducible show DvA _ _ _ _ _ _ _ _ (_ :: _) _); exact dvA_cons (by k_extra "my dv") (by k_extra "my dvs"))
  k_with "my dv" => first
    | ((with_reducible show Dv _ _ _ _ _ _ _ _ (PySem.Expr.Name _ _) _); exact dv_name (by exact rfl) (by k_extra "my dat") (by exact rfl) (by exact rfl) (by decide))
    | ((with_reducible show Dv _ _ _ _ _ _ _ _ (PySem.Expr.Constant _ _ _) _); exact dv_lit (by k_extra "my lit"))
    | ((with_reducible show Dv _ _ _ _ _ _ _ _ (PySem.Expr.Subscript _ (PySem.Expr.Constant _ _ _) _) _); first | exact dv_item (by k_extra "my dv") (by decide) (by exact rfl) (by exact rfl) | exact dv_item0 (by k_extra "my dv"))
    | ((with_reducible show Dv _ _ _ _ _ _ _ _ (PySem.Expr.Tuple _ _ _) _); first | exact dv_lit (by k_extra "my lit") | exact dv_tuple (by k_extra "my dvs") (by exact Nat.le_of_ble_eq_true rfl))
    | ((with_reducible show Dv _ _ _ _ _ _ _ _ (PySem.Expr.List _ _) _); exact dv_lit (by k_extra "my lit"))
    | ((with_reducible show Dv _ _ _ _ _ _ _ _ (PySem.Expr.BinOp _ PySem.Operator.Mult _ _) _); exact dv_mul (by k_extra "my dv") (by k_extra "my dv") (by mul_fits))
    | ((with_reducible show Dv _ _ _ _ _ _ _ _ (PySem.Expr.BinOp _ PySem.Operator.Add _ _) _); exact dv_add (by k_extra "my dv") (by k_extra "my dv"))
    | ((with_reducible show Dv _ _ _ _ _ _ _ _ (PySem.Expr.BinOp _ PySem.Operator.Sub _ _) _); exact dv_sub (by k_extra "my dv") (by k_extra "my dv"))
    | ((with_reducible show Dv _ _ _ _ _ _ _ _ (PySem.Expr.UnaryOp PySem.UnaryOp.USub _ _) _); exact dv_neg (by k_extra "my dv"))
    | ((with_reducible show Dv _ _ _ _ _ _ _ _ (PySem.Expr.Call _ _ _ _) _); exact dv_call (by k_asm) (by k_asm) (by k_asm) (by exact rfl) (by k_extra "my fn") (by k_is) (by exact rfl) (by k_extra "my dv") (by k_extra "my dvs") (by exact rfl) (by k_extra "my con") (by k_extra "my room") (by k_extra "my units"))
  k_with "eval Call" => (k_here; k_dflt (refine Wq.out ?_; refine' dv_runB (by assumption) (by k_asm) (by k_asm) (by kd_subs) (by kd_subs) (by k_extra "my dv") ?_); intro v9 t9 h9 tk9 F9 N9 O9 D9; (have hB9 := baseOf (by assumption) D9); (try k_dflt (k_extra "my got")); (try k_sweep))
  k_with "eval Tuple" => (k_here; k_dflt (refine Wq.out ?_; refine' dv_runB (by assumption) (by k_asm) (by k_asm) (by kd_subs) (by kd_subs) (by k_extra "my dv") ?_); intro v9 t9 h9 tk9 F9 N9 O9 D9; (have hB9 := baseOf (by assumption) D9); (try k_dflt (k_extra "my got")); (try k_sweep))
  k_with "eval List" => (k_here; k_dflt (refine Wq.out ?_; refine' dv_runB (by assumption) (by k_asm) (by k_asm) (by kd_subs) (by kd_subs) (by k_extra "my dv") ?_); intro v9 t9 h9 tk9 F9 N9 O9 D9; (have hB9 := baseOf (by assumption) D9); (try k_dflt (k_extra "my got")); (try k_sweep))
  k_with "exec Assign" => (k_here; (with_reducible show wpAny _ _ (exec (PySem.Stmt.Assign [PySem.Expr.Tuple [PySem.Expr.Name _ _, PySem.Expr.Name _ _] _ _] _ _) _) _ _ _); k_dflt (refine Wq.out ?_; refine' dv_pair (by assumption) (by k_asm) (by k_asm) (by kd_subs) (by kd_subs) (by k_extra "my dv") (by with_unfolding_all rfl) (by exact rfl) (by exact rfl) (by exact rfl) (by exact rfl) (by exact rfl) ?_); intro vx9 vy9 t9 h9 tk9 F9 N9 O9 D9 E9; (have hB9 := baseOf (by assumption) D9); (try k_sweep))
  k_with "exec Return some" => (k_here; k_dflt (refine Wq.out ?_; refine' dv_ret (by assumption) (by k_asm) (by k_asm) (by kd_subs) (by kd_subs) (by k_extra "my dv") ?_); intro v9 t9 h9 tk9 F9 N9 O9 D9; (try k_sweep))
  k_with "exec Assign" => (k_here; (with_reducible show wpAny _ _ (exec (PySem.Stmt.Assign [PySem.Expr.Name _ _] _ _) _) _ _ _); k_dflt (refine Wq.out ?_; refine' dv_set (by assumption) (by k_asm) (by k_asm) (by kd_subs) (by kd_subs) (by k_extra "my dv") (by exact rfl) (by exact rfl) (by exact rfl) ?_); intro v9 t9 h9 tk9 F9 N9 O9 D9; (have hB9 := baseOf (by assumption) D9); (try k_dflt (k_extra "my got")); (try k_sweep))
  k_with "my fn" => first
    | ((with_reducible show FnAt _ _ _ _ _ (compEnvC _ _ _ _) _ _); exact fnC (by k_asm) (by k_asm) (by k_is) (by exact rfl) (by exact rfl) (by exact rfl) (by decide))
    | exact fnX (by k_asm) (by k_asm) (by exact rfl) (by k_is) (by exact rfl) (by decide)
  k_with "subscriptTail Name Slice ref ref" => (k_here; (with_reducible show wpAny _ _ (subscriptTail _ (PySem.Expr.Slice none none (some _) _) (Value.ref _) (Value.ref _)) _ _ _); k_dflt (refine' tup_rev (by k_asm) (by k_asm) (by k_mem) rfl ?_ (by with_unfolding_all rfl) (by kmk_pure) (by first | exact Nat.le_of_ble_eq_true rfl | exact LenOk.le (by assumption))); intro D' h' F' N' l1; (try k_sweep))
  k_with "subscriptTail Name Slice ref ref" => (k_here; (with_reducible show wpAny _ _ (subscriptTail _ (PySem.Expr.Slice (some _) none none _) (Value.ref _) (Value.ref _)) _ _ _); k_dflt (refine' tup_tail (by k_asm) (by k_asm) (by k_mem) ?_ (by with_unfolding_all rfl) (by kmk_pure) (by first | exact Nat.le_of_ble_eq_true rfl | exact LenOk.le (by assumption))); intro D' h' F' N' l1; (try k_sweep))
  k_with "exec For" => (k_here; (rename Fr _ _ _ _ => lF'); (with_unfolding_all refine' For_turns lF' ?_; k_whole))
  k_with "exec For Name Subscript cons nil" => (k_here; (rename Fr _ _ _ _ => lF'); (with_unfolding_all refine' For_turns lF' ?_; k_whole))
  k_with "exec For Tuple Call cons nil" => (k_here; (rename Fr _ _ _ _ => lF'); (with_unfolding_all refine' For_turns lF' ?_; k_whole))
  k_with "exec For Name Call cons nil" => (k_here; (rename Fr _ _ _ _ => lF'); (with_unfolding_all refine' For_turns lF' ?_; k_whole))
  k_with "exec For Name Call cons cons" => (k_here; (rename Fr _ _ _ _ => lF'); (with_unfolding_all refine' For_turns lF' ?_; k_whole))
  k_with "pyIter ref" => (k_here; (with_reducible show wpAny _ _ (pyIter (Value.ref _)) (fun it s₂ => TurnsAt _ _ _ _ _ _ _ _ _ it s₂) _ _); k_dflt (refine' for_tup (by with_unfolding_all rfl) (by k_asm) (by k_asm) (by k_mem) rfl rfl ?_); (try dsimp only [List.map_cons, List.map_nil]))
  k_with "PRest" => first
    | (refine PRest.succ ?_; intro t' own' h' tk' F' N'; (try simp only [bindB] at F'); (try k_sweep); (try k_fold))
    | (refine PRest.zero ?_; intro h' tk' F' N'; (try k_sweep))
  k_with "TPost" => first | (dsimp only [TPost]) | (refine TPost.ret ?_; (try dsimp only)) | (refine TPost.next ?_) | (refine TPost.cont ?_)
  k_with "TEnd" => (refine TEnd.intro (by k_asm) (by k_asm) (by kd_subs) ?_)
  k_with "my bits" => first | k_extra "my bit" | exact Bits.mul (by k_extra "my bits") (by k_extra "my bits") | exact Bits.add (by k_extra "my bits") (by k_extra "my bits") | exact Bits.sub (by k_extra "my bits") (by k_extra "my bits") | exact Bits.neg (by k_extra "my bits") | exact Bits.lit (by decide)
  k_with "my bitsle" => exact Bits.mono (by k_extra "my bits") (by decide)
  k_with "mul_fits" => first | (refine Bits.ok (n := 8000) (m := 8000) ?_ ?_ (by decide) <;> assumption) | (refine Bits.ok (by k_extra "my bits") (by k_extra "my bits") (by decide))
  k_with "call type:zip" => (k_here; (with_reducible show wpAny _ _ (call (Value.type _) [Value.ref _, Value.ref _, Value.ref _]) (fun xv s₁ => wpAny _ _ (pyIter xv) (fun it s₂ => TurnsAt _ _ _ _ _ _ _ _ _ it s₂) _ s₁) _ _); k_dflt (refine' for_zip3 (by with_unfolding_all rfl) (by k_asm) (by k_asm) (by k_mem) (by k_mem) (by k_mem) (by exact rfl) (by exact rfl) rfl rfl rfl rfl ?_); (try dsimp only [trip3]))
  k_with "call type:tuple" => (k_here; (with_reducible show wpAny _ _ (call (Value.type _) [Value.ref _]) _ _ _); k_dflt (refine' call_tuple_tup (News.isTup (by k_asm) (by k_mem)) ?_))
  k_with "eval ListComp" => (k_here; (rename Fr _ _ _ _ => lF'); k_dflt (refine' comp_eval lF' rfl (by decide) rfl (by decide) ?_ (by intro _; rfl)))
  k_with "exec Assign cons ListComp" => (k_here; (rename Fr _ _ _ _ => lF'); k_dflt (refine' comp_assign lF' rfl rfl (by decide) rfl (by decide) rfl rfl ?_ (by intro _; rfl)))
  k_with "k_all" => first
    | exact List.forall_mem_nil _
    | assumption
    | (refine' List.forall_mem_cons.mpr ⟨?_, ?_⟩; (focus first | k_extra "my ne" | assumption | exact ne_gt (by ktn_lt) (by k_extra "kcj_q") | exact ne_lt (by ktn_lt) (by k_extra "kcj_q")); k_all)
    | (refine' List.forall_mem_append.mpr ⟨?_, ?_⟩; (focus k_all); k_all)
    | exact off_gt (by assumption) (by k_extra "kcj_q")
    | exact off_leS (by assumption) (by omega)
    | exact off_le (by ktn_lt) (by kd_subs) (by omega)
  k_with "k_upd" => first | exact Upd.head (by k_all) | ((with_reducible show Upd _ _ _ (_ :: _) _); exact Upd.tail (by k_extra "my ne") (by k_upd)) | (refine' upd_app ?_ ?_; (focus k_all); k_upd)
  k_with "k_updF" => first | exact UpdF.head (by k_all) | ((with_reducible show UpdF _ _ (_ :: _) _); exact UpdF.tail (by k_extra "my ne") (by k_updF)) | (refine' updF_app ?_ ?_; (focus k_all); k_updF)
  k_with "k_mem" => k_extra "kcj_q"
  k_with "pyIter ref" => (k_here; (with_reducible show wpAny _ _ (pyIter (Value.ref _)) (fun it s₂ => CompAt _ _ _ _ _ _ _ _ _ _ _ _ _ it s₂) _ _); k_dflt (refine' comp_range (by with_unfolding_all rfl) (by assumption) (by first | rfl | decide | exact small_of (by assumption)) (by first | rfl | exact Int.toNat_of_nonneg (by decide) | exact size_of _) (by k_asm) (by k_asm) rfl rfl (by first | decide | exact Nat.le_of_ble_eq_true rfl | exact LenOk.le (by assumption)) ?_); intro I' s9 hs9; (obtain ⟨h9, e9⟩ := hs9); subst e9; (try simp only [List.range, List.range.loop, List.map_cons, List.map_nil]); (try k_sweep))
  k_with "pyIter ref" => (k_here; (with_reducible show wpAny _ _ (pyIter (Value.ref _)) (fun it s₂ => CompAt _ _ _ _ _ _ _ _ _ _ _ _ _ it s₂) _ _); k_dflt (refine' comp_list (by with_unfolding_all rfl) (by k_asm) (by k_asm) (by k_mem) rfl rfl (by first | exact Nat.le_of_ble_eq_true rfl | exact LenOk.le (by assumption)) ?_); intro I' s9 hs9; (obtain ⟨h9, e9⟩ := hs9); subst e9; (try simp only [List.map_cons, List.map_nil]); (try k_sweep))
  k_with "pyIter ref" => (k_here; (with_reducible show wpAny _ _ (pyIter (Value.ref _)) (fun it s₂ => CompAt _ _ _ _ _ _ _ _ _ _ _ _ _ it s₂) _ _); k_dflt (refine' comp_tup (by with_unfolding_all rfl) (by k_asm) (by k_asm) (by k_mem) rfl rfl (by first | exact Nat.le_of_ble_eq_true rfl | exact LenOk.le (by assumption)) ?_); intro I' s9 hs9; (obtain ⟨h9, e9⟩ := hs9); subst e9; (try simp only [List.map_cons, List.map_nil]); (try k_sweep))
  k_with "call type:zip" => (k_here; (with_reducible show wpAny _ _ (call (Value.type _) [Value.ref _, Value.ref _, Value.ref _]) (fun xv s₁ => wpAny _ _ (pyIter xv) (fun it s₂ => CompAt _ _ _ _ _ _ _ _ _ _ _ _ _ it s₂) _ s₁) _ _); k_dflt (refine' comp_zip3 (by with_unfolding_all rfl) (by k_asm) (by k_asm) (by k_mem) (by k_mem) (by k_mem) (by exact rfl) (by exact rfl) (by exact Nat.le_of_ble_eq_true rfl) rfl rfl rfl rfl (by decide) (by decide) (by decide) ?_); intro I' s9 hs9; (obtain ⟨h9, e9⟩ := hs9); subst e9; (try dsimp only [trip3]); (try k_sweep))
  k_with "CRest" => first
    | (refine CRest.zero ?_)
    | (refine CRest.plain ?_; intro t' own' C' oC' D' m' h' tk' E' hC' hx' F' N' off' wo'; (first | (obtain ⟨hx1, hx2, hx3, _⟩ := hx'; (try dsimp only at hx1 hx2 hx3)) | (obtain ⟨hx1, _⟩ := hx'; (try dsimp only at hx1))); (try k_sweep); (try k_fold))
    | (refine CRest.test ?_; intro t' own' C' oC' D' m' h' tk' E' hC' hx' F' N' off' wo'; (first | (obtain ⟨hx1, hx2, hx3, _⟩ := hx'; (try dsimp only at hx1 hx2 hx3)) | (obtain ⟨hx1, _⟩ := hx'; (try dsimp only at hx1))); (try k_sweep); (try k_fold))
  k_with "my coff" => first
    | exact coff_nil
    | assumption
    | (with_reducible refine' coff_e (by assumption) (by k_extra "kcj_q") ?_; k_extra "my coff")
    | (with_reducible refine' coff_consW (by assumption) (by ktn_lt) (by k_extra "kcj_q") (by k_extra "kcj_q") (by kd_subs) ?_; k_extra "my coff")
    | (with_reducible refine' coff_app ?_ ?_; (focus k_extra "my coff"); k_extra "my coff")
    | (with_reducible refine' coff_sub (by assumption) (by kd_subs))
    | (with_reducible refine' coff_ordW (by assumption) (by assumption) (by k_extra "kcj_q") (by k_extra "kcj_q") (by kd_subs))
  k_with "CEnd" => (k_dflt (refine' cend (by k_asm) (by k_asm) (by k_extra "kcj_q") (by k_extra "kcj_q") (by kd_subs) (by repeat' (first | exact CS.base | refine' CS.skip ?_)) (by k_extra "my coff") ?_); (try simp only [List.nil_append, List.cons_append]))
  k_with "FinC" => (unfold FinC; intro D' h' tk' F' N' o1' l1'; (try dsimp only [PyProof.Rows.LCg.lst, List.length_cons, List.length_nil] at N'); (try simp only [AllLt, and_true] at l1'); (try dsimp only))
  k_with "FinS" => (unfold FinS; intro D' h' tk' F' N' o1' l1'; (try dsimp only [PyProof.Rows.LCg.lst, List.length_cons, List.length_nil] at N'); (try simp only [AllLt, and_true] at l1'); (try dsimp only))
  k_with "my sub" => (k_here; (with_reducible show wpAny _ _ (subscriptTail _ _ (Value.ref _) (Value.int _ _)) _ _ _); k_dflt (first
    | ((with_reducible show wpAny _ _ (subscriptTail _ _ (Value.ref _) (Value.int 0 _)) _ _ _); first | refine' item_tup0 (by k_asm) (by k_extra "kcj_q") ?_ (by with_unfolding_all rfl) | refine' item_tup0S (by k_asm) (by assumption) (by exact rfl) (by kd_subs) ?_ (by with_unfolding_all rfl))
    | (refine' item_tupS (by k_asm) (by assumption) (by exact rfl) (by kd_subs) (by decide) (by decide) (by exact rfl) (by exact rfl) ?_ (by with_unfolding_all rfl))
    | (refine' item_lstS (by k_asm) (by assumption) (by exact rfl) (by kd_subs) (by decide) (by decide) (by exact rfl) ?_ (by with_unfolding_all rfl))
    | (refine' item_lstNS (by k_asm) (by assumption) (by exact rfl) (by kd_subs) (by decide) (by decide) (by exact rfl) (by exact rfl) ?_ (by with_unfolding_all rfl))
    | (refine' item_lst (by k_asm) (by k_extra "kcj_q") (by decide) (by decide) (by exact rfl) ?_ (by with_unfolding_all rfl))
    | (refine' item_lstN (by k_asm) (by k_extra "kcj_q") (by decide) (by decide) (by exact rfl) (by exact rfl) ?_ (by with_unfolding_all rfl))))
  k_with "subscriptTail" => k_extra "my sub"
  k_with "subscriptTail Name" => k_extra "my sub"
  k_with "subscriptTail Subscript" => k_extra "my sub"
  k_with "subscriptTail Name Constant ref int" => k_extra "my sub"
  k_with "subscriptTail Name Name ref int" => k_extra "my sub"
  k_with "subscriptTail Name BinOp ref int" => k_extra "my sub"
  k_with "subscriptTail Name UnaryOp ref int" => k_extra "my sub"
  k_with "my con" => first | exact con_plus (by assumption) (by assumption) | exact con_minus (by assumption) (by assumption) | exact con_times (by assumption) (by assumption)
  k_with "compareOp NotEq ref ref" => (k_here; k_dflt (refine' pt_ne (by k_asm) (by assumption) (by kd_subs) (by assumption) (by kd_subs) (by k_extra "my units") ?_))
  k_with "my con" => first | exact con_frac0 | exact con_rev (by assumption)
  k_with "my dv" => first
    | ((with_reducible show Dv _ _ _ _ _ _ _ _ (PySem.Expr.Subscript _ (PySem.Expr.Name _ _) _) _); exact dv_itemAt (by k_extra "my dv") (by k_extra "my dv") (by with_reducible assumption) (by assumption) (by intro _ _; with_unfolding_all rfl))
    | ((with_reducible show Dv _ _ _ _ _ _ _ _ (PySem.Expr.Subscript _ (PySem.Expr.BinOp _ _ _ _) _) _); exact dv_itemAt (by k_extra "my dv") (by k_extra "my dv") (by with_reducible assumption) (by assumption) (by intro _ _; with_unfolding_all rfl))
    | ((with_reducible show Dv _ _ _ _ _ _ _ _ (PySem.Expr.Name _ _) _); exact dv_cname (by assumption) (by k_extra "kcj_q") (by assumption) (by k_extra "my dat") (by exact rfl) (by exact rfl) (by decide))
    | ((with_reducible show Dv _ _ _ _ _ _ _ _ (PySem.Expr.Name _ _) _); exact dv_free (by exact rfl) (by k_extra "kcj_q") (by assumption) (by k_extra "my dat") (by exact rfl) (by exact rfl) (by decide) (by decide))
    | ((with_reducible show Dv _ _ _ _ _ _ _ _ (PySem.Expr.Name _ _) _); exact dv_ccell (by exact rfl) (by k_extra "kcj_q") (by assumption) (by k_extra "my dat") (by exact rfl) (by exact rfl) (by decide))
    | ((with_reducible show Dv _ _ _ _ _ _ _ _ (PySem.Expr.Name _ _) _); exact dv_cell (by exact rfl) (by k_extra "kcj_q") (by assumption) (by k_extra "my dat") (by exact rfl) (by exact rfl) (by decide))
  k_with "my con" => first | exact fun l v vs h r => con_dirF (by assumption) (by assumption) (by assumption) l v vs h r | exact fun l v vs h r => con_dirE (by assumption) (by assumption) (by assumption) l v vs h r | exact fun l v vs h r => con_way (by assumption) (by assumption) (by assumption) l v vs h r
  k_with "my lit" => ((with_reducible show LitD (PySem.Expr.Constant (PySem.Const.bool _) _ _) _); exact lit_bool)
  k_with "my elt" => (unfold EltOk; intro b2 d9 v9 C9 oC9 m9 hb9 hd9 hC9 hx9 hv9; (try dsimp only); k_extra "my dv")
  k_with "my dv" => ((with_reducible show Dv _ _ _ _ _ _ _ _ (PySem.Expr.ListComp _ _ _ _) _); first
    | exact dv_flt (by exact rfl) (by decide) (by exact rfl) (by decide) (by exact rfl) (by with_unfolding_all rfl) (by k_extra "my dv") (by assumption) (by intro _; rfl) (by k_extra "my elt") (by k_extra "my elt") (by k_extra "my elt") (by assumption) (by exact pd_ok 7 _) (by exact fun _ _ => unl_iff) (by exact rfl) (by k_extra "my units"))
  k_with "my dv" => ((with_reducible show Dv _ _ _ _ _ _ _ _ (PySem.Expr.Subscript _ (PySem.Expr.UnaryOp _ _ _) _) _); first | exact dv_last (by k_extra "my dv") | exact dv_lastL (by k_extra "my dv"))
  k_with "exec Assign" => (k_here; (with_reducible show wpAny _ _ (exec (PySem.Stmt.Assign [PySem.Expr.Tuple [PySem.Expr.Name (PySem.Str.ofString "ahead") _, _] _ _] _ _) _) _ _ _); refine stopW ?_)
  k_with "exec Assign cons ListComp" => (k_here; (with_reducible show wpAny _ _ (exec (PySem.Stmt.Assign [PySem.Expr.Name (PySem.Str.ofString "opposed") _] _ _) _) _ _ _); refine stopW ?_)
  k_with "exec If" => (k_here; (with_reducible show wpAny _ _ (exec (PySem.Stmt.If (PySem.Expr.Compare _ _ _ _) _ _ _) _) _ _ _); refine stopW ?_)
  k_with "eval Call" => (k_here; (with_reducible show wpAny _ _ (eval (PySem.Expr.Call (PySem.Expr.Name (PySem.Str.ofString "_law_way_right") _) _ _ _) _) _ _ _); refine stopW ?_)
  k_with "exec Return some" => (k_here; (with_reducible show wpAny _ _ (exec (PySem.Stmt.Return (some (PySem.Expr.BoolOp _ _ _)) _) _) _ _ _); refine stopW ?_)
  trivial
set_option maxRecDepth 100000 in
set_option maxHeartbeats 4000000 in
theorem ct_dirs {w : World} {mean : ExcName → Option Value} {mg mb : Str → Option Value} {news : Led} {vc : Value} {c : List Pt} {p0 pl : Pt} {ps pls : List Pt} (dc : DatIn news vc (cvd c)) (hc : c = p0 :: ps) (hr : c.reverse = pl :: pls) (hl : LenOk c.length) (bc : ∀ p ∈ c, Bp 900 p) :
    Gives w mean mg mb 20 192 news [] [vc] (fun _ r => r = .bool true) := by
  unfold Gives
  k_fill
  have hM := kdMark
  intro dp un gd cn cs a ccd cl outer A₀ base h₀ L m s nw Q E B F X N T hk hn hd hu hret
  replace dc := dc.mono hn
  refine ref_elim (P := fun x => wpAny _ _ (call _ [x]) _ _ _) dc ?_
  clear dc
  intro cA dc
  replace dc : DatIn nw (.ref cA) (cvd c) := dc
  refine wpAny_call ?_
  k_dflt ktr_enter
  rename_i oK dK
  replace dK : oK.data = .cell (some (.ref cA)) := dK
  have hB : BaseIs [(L' + 1, oK)] nw := ⟨⟩
  have hl60 : (c.map pd).length ≤ 60 := by rw [List.length_map]; exact hl
  have hok : ∀ d ∈ c.map pd, kqdOk 9 d = true := fun d hd => by
    obtain ⟨q, _, rfl⟩ := List.mem_map.mp hd
    exact pd_ok 7 q
  have dcF : DatIn nw (.ref cA) (cvd (p0 :: ps)) := hc ▸ dc
  have dcL : DatIn nw (.ref cA) (.tuple ((pls.reverse.map pd) ++ [pd pl])) := by
    have e : c = pls.reverse ++ [pl] := by have := congrArg List.reverse hr; simpa using this
    have e2 : cvd c = .tuple ((pls.reverse.map pd) ++ [pd pl]) := by rw [e]; unfold cvd; simp
    exact e2 ▸ dc
  have dc2 := dc
  clear dc
  have hlr : LenOk c.reverse.length := by rw [List.length_reverse]; exact hl
  have bcr : ∀ p ∈ c.reverse, Bp 900 p := fun p hp => bc p (List.mem_reverse.mp hp)
  k_steps
  unfold StopW
  refine Wq.out ?_
  refine' dv_pair (d1 := .list ((c.map pd).filter (unl p0))) (d2 := .list ((c.map pd).filter (unl pl))) (by assumption) (by k_asm) (by k_asm) (by kd_subs) (by kd_subs) (by
    refine dv_tuple ?_ (by exact Nat.le_of_ble_eq_true rfl)
    refine dvA_cons ?_ (dvA_cons ?_ dvA_nil)
    · refine' dv_flt (d0 := pd p0) (by exact rfl) (by decide) (by exact rfl) (by decide) (by exact rfl) (by with_unfolding_all rfl) (by k_extra "my dv") hl60 (by intro _; rfl) (by k_extra "my elt") (by k_extra "my elt") ?t2 hok (pd_ok 7 _) (fun _ _ => unl_iff) (by exact rfl) (by k_extra "my units")
      case t2 =>
        unfold EltOk
        intro b2 d9 v9 C9 oC9 m9 hb9 hd9 hC9 hx9 hv9
        exact dv_item0 (ds := ps.map pd) (dv_ccell (by exact rfl) (by k_extra "kcj_q") dK (dcF.mono fun p hp => hb9 p (List.mem_append.mpr (.inr hp))) (by exact rfl) (by exact rfl) (by decide))
    · refine' dv_flt (d0 := pd pl) (by exact rfl) (by decide) (by exact rfl) (by decide) (by exact rfl) (by with_unfolding_all rfl) (by k_extra "my dv") hl60 (by intro _; rfl) (by k_extra "my elt") (by k_extra "my elt") ?t2 hok (pd_ok 7 _) (fun _ _ => unl_iff) (by exact rfl) (by k_extra "my units")
      case t2 =>
        unfold EltOk
        intro b2 d9 v9 C9 oC9 m9 hb9 hd9 hC9 hx9 hv9
        exact dv_last (ds := pls.reverse.map pd) (dv_ccell (by exact rfl) (by k_extra "kcj_q") dK (dcL.mono fun p hp => hb9 p (List.mem_append.mpr (.inr hp))) (by exact rfl) (by exact rfl) (by decide))) (by with_unfolding_all rfl) (by exact rfl) (by exact rfl) (by exact rfl) (by exact rfl) (by exact rfl) ?_
  intro vA vL tA hA tkA FA NA OA DA DL
  have hBA := baseOf (by assumption) DA
  k_steps
  unfold StopW
  k_dflt (refine cut_flow (by assumption) (by assumption) ?_ ?_)
  intro Q' hQ'
  · refine Wq.out ?_
    refine' dv_ifEq (by assumption) (by k_asm) (by k_asm) (by kd_subs) (by kd_subs) (∀ q ∈ c, q = p0) (d1 := .list ((c.map pd).filter (unl p0))) (d2 := .list []) (dv_name (by exact rfl) (DA.mono (by kd_subs)) (by exact rfl) (by exact rfl) (by decide)) (dv_list dvA_nil (by exact Nat.le_of_ble_eq_true rfl)) flt_ok (by decide) flt_iff (by exact rfl) (by k_extra "my units") ?_ ?_
    · intro hs t1 h1 tk1 F1 N1 O1
      k_steps
      unfold StopW
      refine Wq.out ?_
      refine' dv_ifNe (by assumption) (by k_asm) (by k_asm) (by kd_subs) (by kd_subs) False (d1 := .tuple [pd (dirF p0 ps), pd (dirE pl pls)]) (d2 := .tuple [.tuple [.tuple [.int 0, .int 1], .tuple [.int 0, .int 1]], .tuple [.tuple [.int 0, .int 1], .tuple [.int 0, .int 1]]]) (dv_tuple (dvA_cons (dv_name (by exact rfl) (D9.mono (by kd_subs)) (by exact rfl) (by exact rfl) (by decide)) (dvA_cons (dv_name (by exact rfl) (E9.mono (by kd_subs)) (by exact rfl) (by exact rfl) (by decide)) dvA_nil)) (by exact Nat.le_of_ble_eq_true rfl)) (by k_extra "my dv") (zz_ok _ _) (by decide) (zz_iff hc hr hs) (by exact rfl) (by k_extra "my units") ?_ ?_
      · exact fun h => h.elim
      · intro _ t2 h2 tk2 F2 N2 O2
        k_steps
        exact hQ' (t2 ++ t1) h2 tk2 F2 (by rw [List.append_assoc]; exact N2) (Ord.app (Ord.sub O2 fun p hp => List.mem_append.mpr (.inr hp)) O1)
    · intro hs t1 h1 tk1 F1 N1 O1
      obtain ⟨⟨q1, r1, e1, m1, w1⟩, ⟨q2, r2, e2, m2, w2⟩⟩ := ways hc hr hs
      rw [e1] at DA
      rw [e2] at DL
      k_steps
      unfold StopW
      refine Wq.out ?_
      refine' dv_runB (d := .bool true) (by assumption) (by k_asm) (by k_asm) (by kd_subs) (by kd_subs) (dv_call (by k_asm) (by k_asm) (by k_asm) (by exact rfl) (by k_extra "my fn") (by k_is) (by exact rfl) (dv_name (by exact rfl) (D9.mono (by kd_subs)) (by exact rfl) (by exact rfl) (by decide)) (dvA_cons (dv_item0 (ds := ps.map pd) (dv_cell (by exact rfl) (by k_extra "kcj_q") dK (dcF.mono (by kd_subs)) (by exact rfl) (by exact rfl) (by decide))) (dvA_cons (dv_itemL0 (ds := r1) (dv_name (by exact rfl) (DA.mono (by kd_subs)) (by exact rfl) (by exact rfl) (by decide))) dvA_nil)) (by exact rfl) (con_way w1 (bc p0 (by rw [hc]; exact .head _)) (bc q1 m1)) (by k_extra "my room") (by k_extra "my units")) ?_
      intro vW tW hW tkW FW NW OW DW
      have eW := bool_open DW
      subst eW
      clear DW
      k_steps
      unfold StopW
      refine Wq.out ?_
      refine' dv_runB (d := .bool true) (by assumption) (by k_asm) (by k_asm) (by kd_subs) (by kd_subs) (dv_call (by k_asm) (by k_asm) (by k_asm) (by exact rfl) (by k_extra "my fn") (by k_is) (by exact rfl) (dv_name (by exact rfl) (E9.mono (by kd_subs)) (by exact rfl) (by exact rfl) (by decide)) (dvA_cons (dv_lastL (ds := r2) (dv_name (by exact rfl) (DL.mono (by kd_subs)) (by exact rfl) (by exact rfl) (by decide))) (dvA_cons (dv_last (ds := pls.reverse.map pd) (dv_cell (by exact rfl) (by k_extra "kcj_q") dK (dcL.mono (by kd_subs)) (by exact rfl) (by exact rfl) (by decide))) dvA_nil)) (by exact rfl) (con_way w2 (bc q2 m2) (bc pl (by rw [← List.mem_reverse, hr]; exact .head _))) (by k_extra "my room") (by k_extra "my units")) ?_
      intro vV tV hV tkV FV NV OV DV
      have eV := bool_open DV
      subst eV
      clear DV
      k_steps
      exact hQ' (tV ++ (tW ++ t1)) hV tkV FV (by rw [List.append_assoc, List.append_assoc]; exact NV) (Ord.app (Ord.sub OV fun p hp => List.mem_append.mpr (.inr (List.mem_append.mpr (.inr hp)))) (Ord.app (Ord.sub OW fun p hp => List.mem_append.mpr (.inr hp)) O1))
  · intro t1 h1 tk1 F1 N1 O1
    have DB := D9
    have EB := E9
    k_steps
    unfold StopW
    refine Wq.out ?_
    refine' dv_setL (f := oppF) (ds := [pd (dirE p0 ps), pd (dirF pl pls)]) (by assumption) (by k_asm) (by k_asm) (by kd_subs) (by kd_subs) (by exact rfl) (by exact rfl) (by decide) (by exact rfl) (by decide) (by exact rfl) (by with_unfolding_all rfl) (by exact rfl) (by exact rfl)
      (dv_list (dvA_cons (dv_call (by k_asm) (by k_asm) (by k_asm) (by exact rfl) (by k_extra "my fn") (by k_is) (by exact rfl) (dv_name (by exact rfl) (D9.mono (by kd_subs)) (by exact rfl) (by exact rfl) (by decide)) (dvA_cons (by k_extra "my dv") dvA_nil) (by exact rfl) (con_dirE (by rw [List.reverse_reverse]; exact hc) hlr bcr) (by k_extra "my room") (by k_extra "my units")) (dvA_cons (dv_call (by k_asm) (by k_asm) (by k_asm) (by exact rfl) (by k_extra "my fn") (by k_is) (by exact rfl) (dv_name (by exact rfl) (D9.mono (by kd_subs)) (by exact rfl) (by exact rfl) (by decide)) dvA_nil (by exact rfl) (con_dirF hr hlr bcr) (by k_extra "my room") (by k_extra "my units")) dvA_nil)) (by exact Nat.le_of_ble_eq_true rfl)) (by exact Nat.le_of_ble_eq_true rfl) (by intro _; rfl) ?elt ?_
    case elt =>
      unfold EltOk
      intro b2 d9 v9 C9 oC9 m9 hb9 hd9 hC9 hx9 hv9
      obtain ⟨r, rfl⟩ := two_pd hd9
      show Dv _ _ _ _ _ _ _ _ _ (.list ([qd r.1, qd r.2].map negF))
      refine dv_compT (by exact rfl) (by decide) (by exact rfl) (by decide) (by exact rfl) (by with_unfolding_all rfl) (dv_cname hC9 (by k_extra "kcj_q") hx9 hv9 (by exact rfl) (by exact rfl) (by decide)) (by exact Nat.le_of_ble_eq_true rfl) (by intro _; rfl) ?_
      unfold EltOk
      intro b3 d8 v8 C8 oC8 m8 hb8 hd8 hC8 hx8 hv8
      obtain ⟨x, rfl⟩ := two_qd hd8
      exact dv_neg2 (dv_cname hC8 (by k_extra "kcj_q") hx8 hv8 (by exact rfl) (by exact rfl) (by decide)) (dv_cname hC8 (by k_extra "kcj_q") hx8 hv8 (by exact rfl) (by exact rfl) (by decide))
    have DR := D9
    intro vO tO hO tkO FO NO OO DO
    have hBO := baseOf (by assumption) DO
    k_steps
    unfold StopW
    refine Wq.out ?_
    refine' dv_ret (by assumption) (by k_asm) (by k_asm) (by kd_subs) (by kd_subs) (dv_and (b1 := true) (b2 := true) (dv_eq True (d1 := cvd c.reverse) (d2 := .tuple (c.map pd).reverse) (dv_name (by exact rfl) (DR.mono (by kd_subs)) (by exact rfl) (by exact rfl) (by decide)) (dv_rev (dv_cell (by exact rfl) (by k_extra "kcj_q") dK (dc2.mono (by kd_subs)) (by exact rfl) (by exact rfl) (by decide)) hl60) (cvd_ok _) (rev_ok _) (rev_iff _) (by exact rfl) (by k_extra "my units"))
      (dv_eq True (d1 := .list [oppF (pd (dirE p0 ps)), oppF (pd (dirF pl pls))]) (d2 := .list [.list [qd (dirF p0 ps).1, qd (dirF p0 ps).2], .list [qd (dirE pl pls).1, qd (dirE pl pls).2]]) (dv_name (by exact rfl) (DO.mono (by kd_subs)) (by exact rfl) (by exact rfl) (by decide)) (dv_list (dvA_cons (dv_listOf (by k_asm) (by k_asm) (by exact rfl) (by exact rfl) (by exact rfl) (by decide) (by exact rfl) (by decide) (by exact rfl) (dv_name (by exact rfl) (DB.mono (by kd_subs)) (by exact rfl) (by exact rfl) (by decide)) (by exact Nat.le_of_ble_eq_true rfl)) (dvA_cons (dv_listOf (by k_asm) (by k_asm) (by exact rfl) (by exact rfl) (by exact rfl) (by decide) (by exact rfl) (by decide) (by exact rfl) (dv_name (by exact rfl) (EB.mono (by kd_subs)) (by exact rfl) (by exact rfl) (by decide)) (by exact Nat.le_of_ble_eq_true rfl)) dvA_nil)) (by exact Nat.le_of_ble_eq_true rfl)) (opp_ok1 (opp1 ..) (opp2 ..)) (opp_ok2 ..) (opp_iff (opp1 ..) (opp2 ..)) (by exact rfl) (by k_extra "my units"))) ?_
    intro vZ tZ hZ tkZ FZ NZ OZ DZ
    have eZ := bool_open DZ
    subst eZ
    k_steps
    all_goals (try (k_extra "my end0"; exact rfl))
    all_goals trace_state
end
section
theorem g_dirs {w : World} {mean : ExcName → Option Value} {mg mb : Str → Option Value} {news : Led} {vc : Value} {c : List Pt} (dc : DatIn news vc (cvd c)) (h1 : 1 ≤ c.length) (hl : LenOk c.length) (bc : ∀ p ∈ c, Bp 900 p) :
    Gives w mean mg mb 20 192 news [] [vc] (fun _ r => r = .bool true) := by
  obtain ⟨p0, ps, hc⟩ : ∃ p0 ps, c = p0 :: ps := by
    cases c with
    | nil => simp at h1
    | cons a r => exact ⟨a, r, rfl⟩
  obtain ⟨pl, pls, hr⟩ : ∃ pl pls, c.reverse = pl :: pls := by
    have h2 : 1 ≤ c.reverse.length := by rw [List.length_reverse]; exact h1
    cases h : c.reverse with
    | nil => rw [h] at h2; simp at h2
    | cons a r => exact ⟨a, r, rfl⟩
  exact ct_dirs dc hc hr hl bc
end
section
open PyProof.Rows.LCg (NsObj lst)
section
variable {cp : Addr} {oc : Obj} {x : Option Value} {led : Led}
mutual
theorem dat_cut (hx : oc.data = .cell x) (hu : ∀ o, (cp, o) ∈ led → o = oc) : ∀ {v : Value} {d : Dat}, DatIn led v d → DatIn (led.filter fun p => decide (p.1 ≠ cp)) v d
  | _, _, .none => .none
  | _, _, .bool b => .bool b
  | _, _, .int i t => .int i t
  | _, _, .str x t => .str x t
  | _, _, .bytes b t => .bytes b t
  | _, _, .tuple (a := a) h r => .tuple (List.mem_filter.mpr ⟨h, decide_eq_true fun e => by
      have e' : a = cp := e
      subst e'
      have := hu _ h
      rw [← this] at hx
      cases hx⟩) (dat_cutA hx hu r)
  | _, _, .list (a := a) h r => .list (List.mem_filter.mpr ⟨h, decide_eq_true fun e => by
      have e' : a = cp := e
      subst e'
      have := hu _ h
      rw [← this] at hx
      cases hx⟩) (dat_cutA hx hu r)
theorem dat_cutA (hx : oc.data = .cell x) (hu : ∀ o, (cp, o) ∈ led → o = oc) : ∀ {vs : List Value} {ds : List Dat}, DatAll led vs ds → DatAll (led.filter fun p => decide (p.1 ≠ cp)) vs ds
  | _, _, .nil => .nil
  | _, _, .cons h r => .cons (dat_cut hx hu h) (dat_cutA hx hu r)
end
/-- the ledger less one cell -/
theorem law_cut {h₀ h : Heap} {L : Addr} (hx : oc.data = .cell x) (N : News h₀ L h led) (hm : (cp, oc) ∈ led) :
    ∃ big : Led, News h₀ L h ((cp, oc) :: big) ∧ (∀ q ∈ big, q.1 ≠ cp) ∧ (∀ {v : Value} {d : Dat}, DatIn led v d → DatIn big v d) ∧ (∀ {vs : List Value} {ds : List Dat}, DatAll led vs ds → DatAll big vs ds) ∧ (∀ {a : Addr} {o : Obj}, (a, o) ∈ led → a ≠ cp → (a, o) ∈ big) := by
  have hu : ∀ o, (cp, o) ∈ led → o = oc := fun o ho => by
    have e1 := (N _ ho).1
    have e2 := (N _ hm).1
    exact Option.some.inj (e1.symm.trans e2)
  refine ⟨led.filter fun p => decide (p.1 ≠ cp), fun p hp => ?_, fun q hq => ?_, fun k => dat_cut hx hu k, fun k => dat_cutA hx hu k, fun k e => List.mem_filter.mpr ⟨k, decide_eq_true e⟩⟩
  · rcases List.mem_cons.mp hp with rfl | hp
    · exact N _ hm
    · exact N p (List.mem_filter.mp hp).1
  · exact of_decide_eq_true (List.mem_filter.mp hq).2
end
theorem menu_cut {led big : Led} {r : Value} (cut : ∀ {v : Value} {d : Dat}, DatIn led v d → DatIn big v d) (a : Int) (b : Nat) (h : DatIn led r (.tuple [.int a, .int (Int.ofNat b)])) (hb : b ≠ 0 ∧ a.natAbs.Coprime b) (hs : a.natAbs < 2 ^ 2 ∧ b < 2 ^ 2) : ∃ q, DatIn big r (qd q) ∧ Bd 2 q := menu_q a b (cut h) hb hs
section
variable {w : World} {mean : ExcName → Option Value} {mg mb : Str → Option Value} {dp un : Nat} {gd : Option (List Code)} {cn : Str} {cs : Scope} {a : Addr} {ccd : Value} {cl : List (Str × Addr)} {outer : List Env} {A₀ : Around} {base h₀ : Heap} {L : Addr} {m : Str → Option Value} {s : Shared} {led big : Led} {Q E : Value → Shared → Prop}
theorem use_curve {v0 v1 : Value} {vr : List Value} {p0 p1 : Pt} {ps : List Pt} {sA : Addr} {n : Nat} {wd : Str} {t1 : Tok} (B : Below A₀ base outer h₀) (F : Fr h₀ L s.heap m) (X : (hd.heap_39 w.params).In h₀) (N : News h₀ L s.heap led) (T : Top hd.view_39 (looseW hd.view_39 [Str.ofString "fraction", Str.ofString "direction"]) mean mg mb h₀) (hk : cs.kind = .function)
    (hw : WordIs wd true) (ms : (sA, ({ cls := .type "tuple", data := .seq (.str wd t1 :: v1 :: vr).toArray n } : Obj)) ∈ led) (d0 : DatIn big v0 (pd p0)) (d1 : DatIn big v1 (pd p1)) (dr : DatAll big vr (ps.map pd)) (sb : ∀ p ∈ big, p ∈ led) (hl : (v1 :: vr).length ≤ 10) (hd : dp + 6 < recursionLimit) (hu : un + 8 * 6 < cLine)
    (ret : ∀ r tl h' tk', Fr h₀ L h' m → News h₀ L h' (tl ++ led) → Ord led tl → DatIn (tl ++ led) r (cvd (p0 :: p1 :: ps)) → Q r { s with heap := h', toks := tk' }) :
    wpAny (model PySem.Challenge.rw_on0222_01.row.prog w) (ktrTop dp un gd cn cs L a ccd cl outer) (call (.ref 135) [v0, .ref sA]) Q E s :=
  Gives.useD B F X N T hk (ct_curve hw ms (d0.mono sb) (d1.mono sb) (dr.mono sb) (by unfold LenOk; omega) (by unfold LenOk; simp only [List.length_cons] at *; omega)) (fun _ h => h) hd hu fun r tl h' tk' F' N' o D => ret r tl h' tk' F' N' o (D.mono fun p hp => List.mem_append.mpr (List.mem_append.mp hp).symm)
theorem use_dirs {vc : Value} {c : List Pt} (B : Below A₀ base outer h₀) (F : Fr h₀ L s.heap m) (X : (hd.heap_39 w.params).In h₀) (N : News h₀ L s.heap led) (T : Top hd.view_39 (looseW hd.view_39 [Str.ofString "fraction", Str.ofString "direction"]) mean mg mb h₀) (hk : cs.kind = .function)
    (dc : DatIn led vc (cvd c)) (h1 : 1 ≤ c.length) (hl : LenOk c.length) (bc : ∀ p ∈ c, Bp 900 p) (hd : dp + 20 < recursionLimit) (hu : un + 8 * 20 < cLine)
    (ret : ∀ h' tk', Fr h₀ L h' m → News h₀ L h' led → Q (.bool true) { s with heap := h', toks := tk' }) :
    wpAny (model PySem.Challenge.rw_on0222_01.row.prog w) (ktrTop dp un gd cn cs L a ccd cl outer) (call (.ref 192) [vc]) Q E s :=
  Gives.useB B F X N T hk (g_dirs dc h1 hl bc) (fun _ h => h) hd hu ret
end
def qq : Pt := (⟨1, 1, by decide, by decide⟩, ⟨-2, 3, by decide, by decide⟩)
theorem qq_bp : Bp 900 qq := Bp.mono (n := 3) ⟨⟨Bits.of (by decide), Bits.of (by decide)⟩, ⟨Bits.of (by decide), Bits.of (by decide)⟩⟩ (by decide)
theorem dat_qq {l : Led} {a b c : Addr} {n k j : Nat} {t1 t2 t3 t4 : Tok} (h : (a, tupO [.ref b, .ref c] n) ∈ l) (hb : (b, tupO [.int 1 t1, .int 1 t2] k) ∈ l) (hc : (c, tupO [.int (-2) t3, .int 3 t4] j) ∈ l) : DatIn l (.ref a) (pd qq) :=
  DatIn.tuple h (.cons (DatIn.tuple hb (.cons (.int _ _) (.cons (.int _ _) .nil))) (.cons (DatIn.tuple hc (.cons (.int _ _) (.cons (.int _ _) .nil))) .nil))
theorem dat_q4 {l big : Led} {a : Addr} {v vq : Value} {p : Pt} {n : Nat} (h : (a, tupO [v, v, vq, v] n) ∈ l) (hv : DatIn big v (pd p)) (sb : ∀ p ∈ big, p ∈ l) (hq : DatIn l vq (pd qq)) : DatIn l (.ref a) (cvd [p, p, qq, p]) :=
  have k := hv.mono sb
  DatIn.tuple h (.cons k (.cons k (.cons hq (.cons k .nil))))
theorem dat_q3 {l big : Led} {a : Addr} {v vq : Value} {p : Pt} {n : Nat} (h : (a, tupO [vq, v, v] n) ∈ l) (hv : DatIn big v (pd p)) (sb : ∀ p ∈ big, p ∈ l) (hq : DatIn l vq (pd qq)) : DatIn l (.ref a) (cvd [qq, p, p]) :=
  have k := hv.mono sb
  DatIn.tuple h (.cons hq (.cons k (.cons k .nil)))
theorem bp4 {p : Pt} (h : Bp 900 p) : ∀ q ∈ [p, p, qq, p], Bp 900 q := fun q hq => by
  simp only [List.mem_cons, List.not_mem_nil, or_false] at hq
  rcases hq with rfl | rfl | rfl | rfl
  · exact h
  · exact h
  · exact qq_bp
  · exact h
theorem bp3 {p : Pt} (h : Bp 900 p) : ∀ q ∈ [qq, p, p], Bp 900 q := fun q hq => by
  simp only [List.mem_cons, List.not_mem_nil, or_false] at hq
  rcases hq with rfl | rfl | rfl
  · exact qq_bp
  · exact h
  · exact h
theorem word_at {n : Nat} (h : 2 ≤ n ∧ n ≤ 4) (t1 t2 t3 : Tok) : ∃ wd t, At [.str (Str.ofString "line") t1, .str (Str.ofString "quad") t2, .str (Str.ofString "cubic") t3] ((n : Int) - 2) (.str wd t) ∧ WordIs wd true := by
  have : n = 2 ∨ n = 3 ∨ n = 4 := by omega
  rcases this with rfl | rfl | rfl
  · exact ⟨_, _, ⟨0, rfl, rfl⟩, by unfold WordIs; decide⟩
  · exact ⟨_, _, ⟨1, rfl, rfl⟩, by unfold WordIs; decide⟩
  · exact ⟨_, _, ⟨2, rfl, rfl⟩, by unfold WordIs; decide⟩
/-- a segment that is no curve -/
def OddIs (l : Led) (v : Value) : Prop := ∃ sA n wd t1 vr, v = .ref sA ∧ (sA, tupO (.str wd t1 :: vr) n) ∈ l ∧ WordIs wd false
section
variable {prog : Program} {w : World} {A : Around} {s : Shared} {h₀ : Heap} {L : Addr} {m : Str → Option Value} {env : Env} {ct elt : PySem.Expr} {scope : Scope} {cl : List (Str × Addr)} {wr : Wr} {Fin : List Value → LedT → Prop} {x : Str} {news : Led}
/-- a comprehension whose test lets nothing through -/
theorem CRest.nothing {ok : Value → Prop}
    (turn : ∀ v, ok v → ∀ own C oC D m₂ h tk (E' : Value → Shared → Prop), NsObj oC m₂ → m₂ x = some v → Fr h₀ L h m → News h₀ L h ((C, oC) :: (D, lst []) :: (own ++ news)) → COff wr C D news → OwnW wr own →
      wpAny (model prog w) A (isTrue ct (compEnvC scope cl C env) (eval ct (compEnvC scope cl C env))) (fun ok s' => if ok = true then
        wpAny (model prog w) A (eval elt (compEnvC scope cl C env)) (fun _ _ => False) E' s'
        else CEnd h₀ L m { s with heap := h, toks := tk } wr own C oC D [] (fun _ news' => news' = news) Value.none s') E' { s with heap := h, toks := tk })
    (last : Fin [] news) : ∀ (vs : List Value), (∀ v ∈ vs, ok v) → CRest prog w A h₀ L m env [ct] elt scope cl s wr Fin (vs.map fun v _ => [(x, v)]) [] news
  | [], _ => CRest.zero last
  | v :: vs, hv => by
    refine CRest.test fun t own C oC D m₂ h tk E' k1 k2 k3 k4 k5 k6 => ?_
    refine wpAny_mono (turn v (hv v (.head _)) own C oC D m₂ h tk E' k1 k2.1 k3 k4 k5 k6) (fun b s' hq => ?_) fun _ _ e => e
    cases b with
    | true =>
      simp only [if_true] at hq ⊢
      exact wpAny_mono hq (fun _ _ h => h.elim) fun _ _ e => e
    | false =>
      simp only [Bool.false_eq_true, if_false] at hq ⊢
      obtain ⟨h₅, tk₅, news₅, e5, F₅, N₅, off₅, e6⟩ := hq
      rw [e6] at N₅ off₅
      exact ⟨h₅, tk₅, _, e5, F₅, N₅, off₅, CRest.nothing turn last vs fun u hu => hv u (.tail _ hu)⟩
end
theorem item_word {prog : Program} {w : World} {A : Around} {E : Value → Shared → Prop} {s : Shared} {h₀ : Heap} {L : Addr} {led : Led} {value slice : PySem.Expr} {a : Addr} {k n : Nat} {u t1 t2 t3 : Tok} {Q : Value → Shared → Prop} (N : News h₀ L s.heap led)
    (hm : (a, W.listOf #[.str (Str.ofString "line") t1, .str (Str.ofString "quad") t2, .str (Str.ofString "cubic") t3] k) ∈ led) (hn : 2 ≤ n ∧ n ≤ 4) (h : ∀ wd t, WordIs wd true → Q (.str wd t) s)
    (hs : subscripted slice false (.ref a) (.int ((n : Int) - 2) u) = operate [.ref a, .int ((n : Int) - 2) u] (getItem (.ref a) (.int ((n : Int) - 2) u)) := by with_unfolding_all rfl) :
    wpAny (model prog w) A (subscriptTail value slice (.ref a) (.int ((n : Int) - 2) u)) Q E s := by
  obtain ⟨wd, t, hA, hW⟩ := word_at hn t1 t2 t3
  exact item_lstAt N hm hA (Nat.le_of_ble_eq_true rfl) (h wd t hW) hs
theorem pts2 {big : Led} {ys : List Value} {pts : List Pt} (h : DatAll big ys (pts.map pd)) (hn : 2 ≤ pts.length) : ∃ p0 p1 ps v0 v1 vr, pts = p0 :: p1 :: ps ∧ ys = v0 :: v1 :: vr ∧ DatIn big v0 (pd p0) ∧ DatIn big v1 (pd p1) ∧ DatAll big vr (ps.map pd) := by
  obtain ⟨p0, p1, ps, rfl⟩ : ∃ p0 p1 ps, pts = p0 :: p1 :: ps := by
    match pts, hn with
    | a :: b :: r, _ => exact ⟨a, b, r, rfl⟩
  obtain ⟨v0, r0, rfl, d0, h⟩ := dall_cons h
  obtain ⟨v1, vr, rfl, d1, h⟩ := dall_cons h
  exact ⟨_, _, _, _, _, _, rfl, rfl, d0, d1, h⟩
theorem nil_eq_nil {prog : Program} {w : World} {A : Around} {E : Value → Shared → Prop} {s : Shared} {h₀ : Heap} {L : Addr} {news : Led} {Q : Value → Shared → Prop} {a b : Addr} {n k : Nat} (N : News h₀ L s.heap news) (ha : (a, W.listOf #[] n) ∈ news) (hb : (b, W.listOf #[] k) ∈ news) (hu : A.units + 64 < cLine) (h : Q (.bool true) s) : wpAny (model prog w) A (compareOp .Eq (.ref a) (.ref b)) Q E s :=
  dat_eq (d := .list []) (e := .list []) True N (DatIn.list (vs := []) ha DatAll.nil) (fun _ h => h) (DatIn.list (vs := []) hb DatAll.nil) (fun _ h => h) (by decide) (by decide) (by simp) hu h
end
section
theorem below_at {h₀ h : Heap} {L : Addr} {m : Str → Option Value} (_ : Fr h₀ L h m) (K : Below callerA h₀ [] h₀) : Below callerA h₀ [] h₀ := K
theorem reg18 : True := by
  k_with_none
  k_with "kcj_q" => first
    | exact List.mem_cons_self
    | (refine List.mem_cons_of_mem _ ?_; k_extra "kcj_q")
    | (refine List.mem_append.mpr (Or.inr ?_); k_extra "kcj_q")
    | (refine List.mem_append.mpr (Or.inl ?_); k_extra "kcj_q")
    | assumption
    | exact sub_use (by assumption) (by assumption)
  k_with "kd_suf" => first
    | with_reducible exact fun _ h => h
    | (refine sub_cons ?_; k_extra "kd_suf")
    | (refine sub_appR ?_; k_extra "kd_suf")
  k_with "kd_subs" => first
    | k_extra "kd_suf"
    | exact List.forall_mem_nil _
    | assumption
    | (refine List.forall_mem_cons.mpr ⟨?_, ?_⟩; (focus k_extra "kcj_q"); kd_subs)
    | (refine List.forall_mem_append.mpr ⟨?_, ?_⟩; (focus kd_subs); kd_subs)
    | (refine sub_cons ?_; kd_subs)
    | (refine sub_appR ?_; kd_subs)
    | (refine sub_appL ?_; kd_subs)
  k_with "ktn_lt" => first | assumption | exact allLt_of (by assumption) | exact alt1 (by assumption) | exact alt2 (by assumption) | exact alt3 (by assumption) | exact alt4 (by assumption) | exact alt5 (by assumption) | exact alt6 (by assumption)
  k_with "ktn_ord" => first
    | exact Ord.nil
    | assumption
    | (refine Ord.app ?_ ?_ <;> ktn_ord)
    | (refine Ord.lt (by ktn_lt) ?_ ?_; (focus kcj_in); ktn_ord)
    | (refine Ord.le (by ktn_lt) ?_ (by omega) ?_; (focus kcj_in); ktn_ord)
    | (refine Ord.sub (by assumption) ?_; kcj_in)
  k_with "ktr_rel" => first | assumption | (refine DatIn.mono ?_ (by assumption); kd_subs)
  k_with "ktr_enter" => first
    | (refine' code_def (by k_asm) (by k_asm) (by k_asm) (by k_asm) (by k_asm) rfl rfl (by first | assumption | exact rfl) (by k_is) (by k_is) (by k_extra "my room") (by first | exact BindsTo.of_eq rfl | exact binds_K (by k_in) rfl (by k_is) rfl rfl rfl | fail "no rule for these arguments") (locs rfl) ?_ rfl rfl rfl (by decide); k_whole; intro g' L' h' FG' F' N' B' X' T'; (try dsimp only); (try k_fold))
    | (refine' code_defC (by k_asm) (by k_asm) (by k_asm) (by k_asm) (by k_asm) rfl rfl (by first | assumption | exact rfl) (by k_is) (by k_is) (by k_extra "my room") (by first | exact BindsTo.of_eq rfl | exact binds_K (by k_in) rfl (by k_is) rfl rfl rfl | fail "no rule for these arguments") rfl (by decide +kernel) ?_ rfl rfl rfl; k_whole; intro g' L' h' tk' cells' FG' F' N' Y' B' X' T' l1; (try k_lt l1); k_cells Y'; (try simp only [List.cons_append, List.nil_append] at N'); (try dsimp only); (try k_fold))
  k_with "my gend" => (refine' gend (by assumption) (by assumption) (by assumption) (by repeat' (first | exact Split.base0 | refine' Split.skip ?_ | refine' Split.appO (by assumption) ?_ | refine' Split.own ?_)) (by ktn_ord) ?_)
  k_with "my end0" => (refine' gend0 (by assumption) (by assumption) (by assumption) (by kd_subs) ?_; (try unfold Says))
  k_with "my dats" => first | exact DatAll.nil | assumption | (refine DatAll.mono ?_ (by assumption); kd_subs) | (refine DatAll.cons ?_ ?_; (focus k_extra "my dat"); k_extra "my dats")
  k_with "my dat" => first
    | exact DatIn.int _ _
    | assumption
    | (refine DatIn.mono ?_ (by assumption); kd_subs)
    | exact DatIn.tuple (by k_extra "kcj_q") (by k_extra "my dats")
    | exact DatIn.list (by k_extra "kcj_q") (by k_extra "my dats")
  k_with "my rel" => (refine DatIn.mono ?_ (by assumption); kd_subs)
  k_with "my room" => first | exact room1 (by assumption) (by exact rfl) | exact room0 (by assumption) (by exact rfl) | ktr_room
  k_with "my units" => first | exact units1 (by assumption) (by exact rfl) | exact units0 (by assumption) (by exact rfl) | ktr_units
  k_with "my ne" => first | exact ne_gtR (by assumption) (by k_extra "kcj_q") | exact ne_ltR (by assumption) (by k_extra "kcj_q") | k_ne
  k_with "newTuple" => (k_here; k_dflt (refine' kup_newTuple (by k_asm) (by k_asm) ?_ (by kmk_size)); intro D' h' F' N' l1; (try k_sweep))
  k_with "newList" => (k_here; k_dflt (refine' newList_K (by k_asm) (by k_asm) ?_ (by size_fits)); intro l' h' F' N' l1; (try k_sweep))
  k_with "my evv" => first
    | ((with_reducible show Ev _ _ _ _ _ (PySem.Expr.Name _ _) _); exact ev_name (by k_asm) (by exact rfl) (by exact rfl) (by exact rfl) (by decide))
    | ((with_reducible show Ev _ _ _ _ _ (PySem.Expr.Subscript _ (PySem.Expr.Constant _ _ _) _) _); exact ev_item (by k_asm) (by k_extra "my evv") (by k_extra "kcj_q") (by decide) (by exact rfl) (by exact rfl))
  k_with "my ev" => first
    | ((with_reducible show Ev _ _ _ _ _ (PySem.Expr.Constant _ _ _) _); exact ev_int)
    | ((with_reducible show Ev _ _ _ _ _ (PySem.Expr.Name _ _) _); exact ev_nameI (by k_asm) (by exact rfl) (by exact rfl) (by exact rfl) (by decide))
    | ((with_reducible show Ev _ _ _ _ _ (PySem.Expr.Subscript _ (PySem.Expr.Constant _ _ _) _) _); exact ev_itemI (by k_asm) (by k_extra "my evv") (by k_extra "kcj_q") (by decide) (by exact rfl) (by exact rfl))
    | ((with_reducible show Ev _ _ _ _ _ (PySem.Expr.BinOp _ PySem.Operator.Mult _ _) _); exact ev_mul (by k_extra "my ev") (by k_extra "my ev") (by mul_fits))
    | ((with_reducible show Ev _ _ _ _ _ (PySem.Expr.BinOp _ PySem.Operator.Add _ _) _); exact ev_add (by k_extra "my ev") (by k_extra "my ev"))
    | ((with_reducible show Ev _ _ _ _ _ (PySem.Expr.BinOp _ PySem.Operator.Sub _ _) _); exact ev_sub (by k_extra "my ev") (by k_extra "my ev"))
    | ((with_reducible show Ev _ _ _ _ _ (PySem.Expr.UnaryOp PySem.UnaryOp.USub _ _) _); exact ev_neg (by k_extra "my ev"))
  k_with "eval BinOp" => (k_here; k_dflt (refine' ev_runI (by k_extra "my ev") ?_); intro t' tk'; (try dsimp only))
  k_with "eval UnaryOp" => (k_here; (with_reducible show wpAny _ _ (eval (PySem.Expr.UnaryOp _ (PySem.Expr.Subscript _ _ _) _) _) _ _ _); k_dflt (refine' ev_runI (by k_extra "my ev") ?_); intro t' tk'; (try dsimp only))
  k_with "eval Subscript" => (k_here; k_dflt (refine' ev_runV (by k_extra "my evv") ?_); intro tk'; (try dsimp only))
  k_with "my bit" => first | assumption | exact Bd.nu (by assumption) | exact Bd.de (by assumption) | (k_dflt (first | exact bp_nx (by assumption) | exact bp_dx (by assumption) | exact bp_ny (by assumption) | exact bp_dy (by assumption)))
  k_with "my lit" => first
    | ((with_reducible show LitD (PySem.Expr.Constant (PySem.Const.int _) _ _) _); exact lit_int)
    | ((with_reducible show LitD (PySem.Expr.Constant (PySem.Const.str _) _ _) _); exact lit_str)
    | ((with_reducible show LitD (PySem.Expr.UnaryOp PySem.UnaryOp.USub (PySem.Expr.Constant (PySem.Const.int _) _ _) _) _); exact lit_neg)
    | ((with_reducible show LitD (PySem.Expr.Tuple _ _ _) _); exact lit_tuple (by k_extra "my lits") (by exact Nat.le_of_ble_eq_true rfl))
    | ((with_reducible show LitD (PySem.Expr.List _ _) _); exact lit_list (by k_extra "my lits") (by exact Nat.le_of_ble_eq_true rfl))
  k_with "my lits" => first
    | ((with_reducible show LitA [] _); exact litA_nil)
    | ((with_reducible show LitA (_ :: _) _); exact litA_cons (by k_extra "my lit") (by k_extra "my lits"))
  k_with "my dvs" => first
    | ((with_reducible show DvA _ _ _ _ _ _ _ _ [] _); exact dvA_nil)
    | ((with_reducible show DvA _ _ _ _ _ _ _ _ (_ :: _) _); exact dvA_cons (by k_extra "my dv") (by k_extra "my dvs"))
  k_with "my dv" => first
    | ((with_reducible show Dv _ _ _ _ _ _ _ _ (PySem.Expr.Name _ _) _); exact dv_name (by exact rfl) (by k_extra "my dat") (by exact rfl) (by exact rfl) (by decide))
    | ((with_reducible show Dv _ _ _ _ _ _ _ _ (PySem.Expr.Constant _ _ _) _); exact dv_lit (by k_extra "my lit"))
    | ((with_reducible show Dv _ _ _ _ _ _ _ _ (PySem.Expr.Subscript _ (PySem.Expr.Constant _ _ _) _) _); first | exact dv_item (by k_extra "my dv") (by decide) (by exact rfl) (by exact rfl) | exact dv_item0 (by k_extra "my dv"))
    | ((with_reducible show Dv _ _ _ _ _ _ _ _ (PySem.Expr.Tuple _ _ _) _); first | exact dv_lit (by k_extra "my lit") | exact dv_tuple (by k_extra "my dvs") (by exact Nat.le_of_ble_eq_true rfl))
    | ((with_reducible show Dv _ _ _ _ _ _ _ _ (PySem.Expr.List _ _) _); exact dv_lit (by k_extra "my lit"))
    | ((with_reducible show Dv _ _ _ _ _ _ _ _ (PySem.Expr.BinOp _ PySem.Operator.Mult _ _) _); exact dv_mul (by k_extra "my dv") (by k_extra "my dv") (by mul_fits))
    | ((with_reducible show Dv _ _ _ _ _ _ _ _ (PySem.Expr.BinOp _ PySem.Operator.Add _ _) _); exact dv_add (by k_extra "my dv") (by k_extra "my dv"))
    | ((with_reducible show Dv _ _ _ _ _ _ _ _ (PySem.Expr.BinOp _ PySem.Operator.Sub _ _) _); exact dv_sub (by k_extra "my dv") (by k_extra "my dv"))
    | ((with_reducible show Dv _ _ _ _ _ _ _ _ (PySem.Expr.UnaryOp PySem.UnaryOp.USub _ _) _); exact dv_neg (by k_extra "my dv"))
    | ((with_reducible show Dv _ _ _ _ _ _ _ _ (PySem.Expr.Call _ _ _ _) _); exact dv_call (by k_asm) (by k_asm) (by k_asm) (by exact rfl) (by k_extra "my fn") (by k_is) (by exact rfl) (by k_extra "my dv") (by k_extra "my dvs") (by exact rfl) (by k_extra "my con") (by k_extra "my room") (by k_extra "my units"))
  k_with "eval Call" => (k_here; k_dflt (refine Wq.out ?_; refine' dv_runB (by assumption) (by k_asm) (by k_asm) (by kd_subs) (by kd_subs) (by k_extra "my dv") ?_); intro v9 t9 h9 tk9 F9 N9 O9 D9; (have hB9 := baseOf (by assumption) D9); (try k_dflt (k_extra "my got")); (try k_sweep))
  k_with "eval Tuple" => (k_here; k_dflt (refine Wq.out ?_; refine' dv_runB (by assumption) (by k_asm) (by k_asm) (by kd_subs) (by kd_subs) (by k_extra "my dv") ?_); intro v9 t9 h9 tk9 F9 N9 O9 D9; (have hB9 := baseOf (by assumption) D9); (try k_dflt (k_extra "my got")); (try k_sweep))
  k_with "eval List" => (k_here; k_dflt (refine Wq.out ?_; refine' dv_runB (by assumption) (by k_asm) (by k_asm) (by kd_subs) (by kd_subs) (by k_extra "my dv") ?_); intro v9 t9 h9 tk9 F9 N9 O9 D9; (have hB9 := baseOf (by assumption) D9); (try k_dflt (k_extra "my got")); (try k_sweep))
  k_with "exec Assign" => (k_here; (with_reducible show wpAny _ _ (exec (PySem.Stmt.Assign [PySem.Expr.Tuple [PySem.Expr.Name _ _, PySem.Expr.Name _ _] _ _] _ _) _) _ _ _); k_dflt (refine Wq.out ?_; refine' dv_pair (by assumption) (by k_asm) (by k_asm) (by kd_subs) (by kd_subs) (by k_extra "my dv") (by with_unfolding_all rfl) (by exact rfl) (by exact rfl) (by exact rfl) (by exact rfl) (by exact rfl) ?_); intro vx9 vy9 t9 h9 tk9 F9 N9 O9 D9 E9; (have hB9 := baseOf (by assumption) D9); (try k_sweep))
  k_with "exec Return some" => (k_here; k_dflt (refine Wq.out ?_; refine' dv_ret (by assumption) (by k_asm) (by k_asm) (by kd_subs) (by kd_subs) (by k_extra "my dv") ?_); intro v9 t9 h9 tk9 F9 N9 O9 D9; (try k_sweep))
  k_with "exec Assign" => (k_here; (with_reducible show wpAny _ _ (exec (PySem.Stmt.Assign [PySem.Expr.Name _ _] _ _) _) _ _ _); k_dflt (refine Wq.out ?_; refine' dv_set (by assumption) (by k_asm) (by k_asm) (by kd_subs) (by kd_subs) (by k_extra "my dv") (by exact rfl) (by exact rfl) (by exact rfl) ?_); intro v9 t9 h9 tk9 F9 N9 O9 D9; (have hB9 := baseOf (by assumption) D9); (try k_dflt (k_extra "my got")); (try k_sweep))
  k_with "my fn" => first
    | ((with_reducible show FnAt _ _ _ _ _ (compEnvC _ _ _ _) _ _); exact fnC (by k_asm) (by k_asm) (by k_is) (by exact rfl) (by exact rfl) (by exact rfl) (by decide))
    | exact fnX (by k_asm) (by k_asm) (by exact rfl) (by k_is) (by exact rfl) (by decide)
  k_with "subscriptTail Name Slice ref ref" => (k_here; (with_reducible show wpAny _ _ (subscriptTail _ (PySem.Expr.Slice none none (some _) _) (Value.ref _) (Value.ref _)) _ _ _); k_dflt (refine' tup_rev (by k_asm) (by k_asm) (by k_mem) rfl ?_ (by with_unfolding_all rfl) (by kmk_pure) (by first | exact Nat.le_of_ble_eq_true rfl | exact LenOk.le (by assumption))); intro D' h' F' N' l1; (try k_sweep))
  k_with "subscriptTail Name Slice ref ref" => (k_here; (with_reducible show wpAny _ _ (subscriptTail _ (PySem.Expr.Slice (some _) none none _) (Value.ref _) (Value.ref _)) _ _ _); k_dflt (refine' tup_tail (by k_asm) (by k_asm) (by k_mem) ?_ (by with_unfolding_all rfl) (by kmk_pure) (by first | exact Nat.le_of_ble_eq_true rfl | exact LenOk.le (by assumption))); intro D' h' F' N' l1; (try k_sweep))
  k_with "exec For" => (k_here; (rename Fr _ _ _ _ => lF'); (with_unfolding_all refine' For_turns lF' ?_; k_whole))
  k_with "exec For Name Subscript cons nil" => (k_here; (rename Fr _ _ _ _ => lF'); (with_unfolding_all refine' For_turns lF' ?_; k_whole))
  k_with "exec For Tuple Call cons nil" => (k_here; (rename Fr _ _ _ _ => lF'); (with_unfolding_all refine' For_turns lF' ?_; k_whole))
  k_with "exec For Name Call cons nil" => (k_here; (rename Fr _ _ _ _ => lF'); (with_unfolding_all refine' For_turns lF' ?_; k_whole))
  k_with "exec For Name Call cons cons" => (k_here; (rename Fr _ _ _ _ => lF'); (with_unfolding_all refine' For_turns lF' ?_; k_whole))
  k_with "pyIter ref" => (k_here; (with_reducible show wpAny _ _ (pyIter (Value.ref _)) (fun it s₂ => TurnsAt _ _ _ _ _ _ _ _ _ it s₂) _ _); k_dflt (refine' for_tup (by with_unfolding_all rfl) (by k_asm) (by k_asm) (by k_mem) rfl rfl ?_); (try dsimp only [List.map_cons, List.map_nil]))
  k_with "PRest" => first
    | (refine PRest.succ ?_; intro t' own' h' tk' F' N'; (try simp only [bindB] at F'); (try k_sweep); (try k_fold))
    | (refine PRest.zero ?_; intro h' tk' F' N'; (try k_sweep))
  k_with "TPost" => first | (dsimp only [TPost]) | (refine TPost.ret ?_; (try dsimp only)) | (refine TPost.next ?_) | (refine TPost.cont ?_)
  k_with "TEnd" => (refine TEnd.intro (by k_asm) (by k_asm) (by kd_subs) ?_)
  k_with "my bits" => first | k_extra "my bit" | exact Bits.mul (by k_extra "my bits") (by k_extra "my bits") | exact Bits.add (by k_extra "my bits") (by k_extra "my bits") | exact Bits.sub (by k_extra "my bits") (by k_extra "my bits") | exact Bits.neg (by k_extra "my bits") | exact Bits.lit (by decide)
  k_with "my bitsle" => exact Bits.mono (by k_extra "my bits") (by decide)
  k_with "mul_fits" => first | (refine Bits.ok (n := 8000) (m := 8000) ?_ ?_ (by decide) <;> assumption) | (refine Bits.ok (by k_extra "my bits") (by k_extra "my bits") (by decide))
  k_with "call type:zip" => (k_here; (with_reducible show wpAny _ _ (call (Value.type _) [Value.ref _, Value.ref _, Value.ref _]) (fun xv s₁ => wpAny _ _ (pyIter xv) (fun it s₂ => TurnsAt _ _ _ _ _ _ _ _ _ it s₂) _ s₁) _ _); k_dflt (refine' for_zip3 (by with_unfolding_all rfl) (by k_asm) (by k_asm) (by k_mem) (by k_mem) (by k_mem) (by exact rfl) (by exact rfl) rfl rfl rfl rfl ?_); (try dsimp only [trip3]))
  k_with "call type:tuple" => (k_here; (with_reducible show wpAny _ _ (call (Value.type _) [Value.ref _]) _ _ _); k_dflt (refine' call_tuple_tup (News.isTup (by k_asm) (by k_mem)) ?_))
  k_with "eval ListComp" => (k_here; (rename Fr _ _ _ _ => lF'); k_dflt (refine' comp_eval lF' rfl (by decide) rfl (by decide) ?_ (by intro _; rfl)))
  k_with "exec Assign cons ListComp" => (k_here; (rename Fr _ _ _ _ => lF'); k_dflt (refine' comp_assign lF' rfl rfl (by decide) rfl (by decide) rfl rfl ?_ (by intro _; rfl)))
  k_with "k_all" => first
    | exact List.forall_mem_nil _
    | assumption
    | (refine' List.forall_mem_cons.mpr ⟨?_, ?_⟩; (focus first | k_extra "my ne" | assumption | exact ne_gt (by ktn_lt) (by k_extra "kcj_q") | exact ne_lt (by ktn_lt) (by k_extra "kcj_q")); k_all)
    | (refine' List.forall_mem_append.mpr ⟨?_, ?_⟩; (focus k_all); k_all)
    | exact off_gt (by assumption) (by k_extra "kcj_q")
    | exact off_leS (by assumption) (by omega)
    | exact off_le (by ktn_lt) (by kd_subs) (by omega)
  k_with "k_upd" => first | exact Upd.head (by k_all) | ((with_reducible show Upd _ _ _ (_ :: _) _); exact Upd.tail (by k_extra "my ne") (by k_upd)) | (refine' upd_app ?_ ?_; (focus k_all); k_upd)
  k_with "k_updF" => first | exact UpdF.head (by k_all) | ((with_reducible show UpdF _ _ (_ :: _) _); exact UpdF.tail (by k_extra "my ne") (by k_updF)) | (refine' updF_app ?_ ?_; (focus k_all); k_updF)
  k_with "k_mem" => k_extra "kcj_q"
  k_with "pyIter ref" => (k_here; (with_reducible show wpAny _ _ (pyIter (Value.ref _)) (fun it s₂ => CompAt _ _ _ _ _ _ _ _ _ _ _ _ _ it s₂) _ _); k_dflt (refine' comp_range (by with_unfolding_all rfl) (by assumption) (by first | rfl | decide | exact small_of (by assumption)) (by first | rfl | exact Int.toNat_of_nonneg (by decide) | exact size_of _) (by k_asm) (by k_asm) rfl rfl (by first | decide | exact Nat.le_of_ble_eq_true rfl | exact LenOk.le (by assumption)) ?_); intro I' s9 hs9; (obtain ⟨h9, e9⟩ := hs9); subst e9; (try simp only [List.range, List.range.loop, List.map_cons, List.map_nil]); (try k_sweep))
  k_with "pyIter ref" => (k_here; (with_reducible show wpAny _ _ (pyIter (Value.ref _)) (fun it s₂ => CompAt _ _ _ _ _ _ _ _ _ _ _ _ _ it s₂) _ _); k_dflt (refine' comp_list (by with_unfolding_all rfl) (by k_asm) (by k_asm) (by k_mem) rfl rfl (by first | exact Nat.le_of_ble_eq_true rfl | exact LenOk.le (by assumption)) ?_); intro I' s9 hs9; (obtain ⟨h9, e9⟩ := hs9); subst e9; (try simp only [List.map_cons, List.map_nil]); (try k_sweep))
  k_with "pyIter ref" => (k_here; (with_reducible show wpAny _ _ (pyIter (Value.ref _)) (fun it s₂ => CompAt _ _ _ _ _ _ _ _ _ _ _ _ _ it s₂) _ _); k_dflt (refine' comp_tup (by with_unfolding_all rfl) (by k_asm) (by k_asm) (by k_mem) rfl rfl (by first | exact Nat.le_of_ble_eq_true rfl | exact LenOk.le (by assumption)) ?_); intro I' s9 hs9; (obtain ⟨h9, e9⟩ := hs9); subst e9; (try simp only [List.map_cons, List.map_nil]); (try k_sweep))
  k_with "call type:zip" => (k_here; (with_reducible show wpAny _ _ (call (Value.type _) [Value.ref _, Value.ref _, Value.ref _]) (fun xv s₁ => wpAny _ _ (pyIter xv) (fun it s₂ => CompAt _ _ _ _ _ _ _ _ _ _ _ _ _ it s₂) _ s₁) _ _); k_dflt (refine' comp_zip3 (by with_unfolding_all rfl) (by k_asm) (by k_asm) (by k_mem) (by k_mem) (by k_mem) (by exact rfl) (by exact rfl) (by exact Nat.le_of_ble_eq_true rfl) rfl rfl rfl rfl (by decide) (by decide) (by decide) ?_); intro I' s9 hs9; (obtain ⟨h9, e9⟩ := hs9); subst e9; (try dsimp only [trip3]); (try k_sweep))
  k_with "CRest" => first
    | (refine CRest.zero ?_)
    | (refine CRest.plain ?_; intro t' own' C' oC' D' m' h' tk' E' hC' hx' F' N' off' wo'; (first | (obtain ⟨hx1, hx2, hx3, _⟩ := hx'; (try dsimp only at hx1 hx2 hx3)) | (obtain ⟨hx1, _⟩ := hx'; (try dsimp only at hx1))); (try k_sweep); (try k_fold))
    | (refine CRest.test ?_; intro t' own' C' oC' D' m' h' tk' E' hC' hx' F' N' off' wo'; (first | (obtain ⟨hx1, hx2, hx3, _⟩ := hx'; (try dsimp only at hx1 hx2 hx3)) | (obtain ⟨hx1, _⟩ := hx'; (try dsimp only at hx1))); (try k_sweep); (try k_fold))
  k_with "my coff" => first
    | exact coff_nil
    | assumption
    | (with_reducible refine' coff_e (by assumption) (by k_extra "kcj_q") ?_; k_extra "my coff")
    | (with_reducible refine' coff_consW (by assumption) (by ktn_lt) (by k_extra "kcj_q") (by k_extra "kcj_q") (by kd_subs) ?_; k_extra "my coff")
    | (with_reducible refine' coff_app ?_ ?_; (focus k_extra "my coff"); k_extra "my coff")
    | (with_reducible refine' coff_sub (by assumption) (by kd_subs))
    | (with_reducible refine' coff_ordW (by assumption) (by assumption) (by k_extra "kcj_q") (by k_extra "kcj_q") (by kd_subs))
  k_with "CEnd" => (k_dflt (refine' cend (by k_asm) (by k_asm) (by k_extra "kcj_q") (by k_extra "kcj_q") (by kd_subs) (by repeat' (first | exact CS.base | refine' CS.skip ?_)) (by k_extra "my coff") ?_); (try simp only [List.nil_append, List.cons_append]))
  k_with "FinC" => (unfold FinC; intro D' h' tk' F' N' o1' l1'; (try dsimp only [PyProof.Rows.LCg.lst, List.length_cons, List.length_nil] at N'); (try simp only [AllLt, and_true] at l1'); (try dsimp only))
  k_with "FinS" => (unfold FinS; intro D' h' tk' F' N' o1' l1'; (try dsimp only [PyProof.Rows.LCg.lst, List.length_cons, List.length_nil] at N'); (try simp only [AllLt, and_true] at l1'); (try dsimp only))
  k_with "my sub" => (k_here; (with_reducible show wpAny _ _ (subscriptTail _ _ (Value.ref _) (Value.int _ _)) _ _ _); k_dflt (first
    | ((with_reducible show wpAny _ _ (subscriptTail _ _ (Value.ref _) (Value.int 0 _)) _ _ _); first | refine' item_tup0 (by k_asm) (by k_extra "kcj_q") ?_ (by with_unfolding_all rfl) | refine' item_tup0S (by k_asm) (by assumption) (by exact rfl) (by kd_subs) ?_ (by with_unfolding_all rfl))
    | (refine' item_tupS (by k_asm) (by assumption) (by exact rfl) (by kd_subs) (by decide) (by decide) (by exact rfl) (by exact rfl) ?_ (by with_unfolding_all rfl))
    | (refine' item_lstS (by k_asm) (by assumption) (by exact rfl) (by kd_subs) (by decide) (by decide) (by exact rfl) ?_ (by with_unfolding_all rfl))
    | (refine' item_lstNS (by k_asm) (by assumption) (by exact rfl) (by kd_subs) (by decide) (by decide) (by exact rfl) (by exact rfl) ?_ (by with_unfolding_all rfl))
    | (refine' item_lst (by k_asm) (by k_extra "kcj_q") (by decide) (by decide) (by exact rfl) ?_ (by with_unfolding_all rfl))
    | (refine' item_lstN (by k_asm) (by k_extra "kcj_q") (by decide) (by decide) (by exact rfl) (by exact rfl) ?_ (by with_unfolding_all rfl))))
  k_with "subscriptTail" => k_extra "my sub"
  k_with "subscriptTail Name" => k_extra "my sub"
  k_with "subscriptTail Subscript" => k_extra "my sub"
  k_with "subscriptTail Name Constant ref int" => k_extra "my sub"
  k_with "subscriptTail Name Name ref int" => k_extra "my sub"
  k_with "subscriptTail Name BinOp ref int" => k_extra "my sub"
  k_with "subscriptTail Name UnaryOp ref int" => k_extra "my sub"
  k_with "my sub" => (k_here; (with_reducible show wpAny _ _ (subscriptTail _ _ (Value.ref _) (Value.int _ _)) _ _ _); k_dflt (first
    | (refine' item_tupAt (by k_asm) (by k_extra "kcj_q") (by with_reducible assumption) (by assumption) ?_ (by with_unfolding_all rfl))
    | (refine' item_lstAt (by k_asm) (by k_extra "kcj_q") (by with_reducible assumption) (by assumption) ?_ (by with_unfolding_all rfl))))
  k_with "my sub" => (k_here; (with_reducible show wpAny _ _ (subscriptTail _ _ (Value.ref _) (Value.int (-1) _)) _ _ _); k_dflt (first
    | (refine' item_lstLast (by k_asm) (by k_extra "kcj_q") (by with_reducible assumption) ?_ (by with_unfolding_all rfl))
    | (refine' item_tupLast (by k_asm) (by k_extra "kcj_q") (by with_reducible assumption) ?_ (by with_unfolding_all rfl))))
  k_with "call builtin:len" => (k_here; (with_reducible show wpAny _ _ (call (Value.builtin "len") [Value.ref _]) _ _ _); k_dflt (first
    | (refine' len_tupL (by k_asm) (by k_extra "kcj_q") (by assumption) ?_)
    | (refine' len_lstL (by k_asm) (by k_extra "kcj_q") (by assumption) ?_)); intro t9 t8; (try dsimp only [List.length_cons, List.length_nil]); (try dsimp only))
  k_with "call type:tuple" => (k_here; (with_reducible show wpAny _ _ (call (Value.type _) [Value.ref _]) _ _ _); k_dflt (refine' tup_of_list (by k_asm) (by k_asm) (by k_extra "kcj_q") (by assumption) ?_); intro D' h' F' N' l1; (try k_sweep))
  k_with "call builtin:list.append" => (k_here; (with_reducible show wpAny _ _ (call (Value.builtin _) [Value.ref _, _]) _ _ _); k_dflt (refine' append_L (by k_asm) (by k_asm) (by first | refine' Upd.tail (by k_extra "my ne") (Upd.tail (by k_extra "my ne") (upd_app (by k_all) (Upd.head (by k_all)))) | k_upd) (by assumption) ?_); intro h' F' N'; (try k_sweep))
  k_with "compareOp NotEq ref ref" => (k_here; k_dflt (first
    | (refine' nil_ne_nil (by k_asm) (by k_extra "kcj_q") (by k_extra "kcj_q") (by k_extra "my units") ?_)
    | (refine' cons_ne_nil (by k_asm) (by k_extra "kcj_q") (by k_extra "kcj_q") (by assumption) (by k_extra "my units") ?_)))
  k_with "setItem ref int int" => (k_here; (with_reducible show wpAny _ _ (setItem (Value.ref _) (Value.int _ _) (Value.int _ _)) _ _ _); k_dflt (refine' set_lst (by k_asm) (by k_asm) (by decide) (by decide) (by first | exact Upd.tail (by first | k_extra "my ne" | assumption) (Upd.head (by k_all)) | k_upd) (by exact Nat.le_of_ble_eq_true rfl) ?_); intro h' F' N'; (try k_sweep))
  k_with "call builtin:list.pop" => (k_here; (with_reducible show wpAny _ _ (call (Value.builtin _) [Value.ref _, Value.int 0 _]) _ _ _); k_dflt (refine' pop0 (by k_asm) (by k_asm) (by first | exact Upd.tail (by k_extra "my ne") (Upd.tail (by first | k_extra "my ne" | assumption) (Upd.head (by k_all))) | k_upd) (by assumption) ?_); intro h' F' N'; (try k_sweep))
  k_with "compareOp In str ref" => (k_here; k_dflt (refine' word_in (News.isTup (by k_asm) (by k_extra "kcj_q")) (by assumption) ?_))
  k_with "binaryOp Add ref ref" => (k_here; k_dflt (refine' tup_add1 (by k_asm) (by k_asm) (by k_extra "kcj_q") (by k_extra "kcj_q") (by first | assumption | exact LenOk.le (by assumption)) ?_); intro D' h' F' N' l1; (try k_sweep))
  k_with "call ref" => (k_here; (with_reducible show wpAny _ _ (call (Value.ref 142) _) _ _ _); k_dflt (refine' ct_pool _ _ _ _ _ _ _ _ _ _ _ _ _ _ _ _ _ _ (by assumption) (by assumption) (by assumption) (by k_asm) (by k_asm) (by k_asm) (by k_asm) (by k_asm) (by first | exact rfl | assumption) (by ktn_lt) (by k_extra "my room") (by k_extra "my units") ?_); intro S9 R9 oS9 oR9 h9 tk9 F9 N9 src9 lR9 lS9; (have ne9 := src9.ne); (try simp only [AllLt, and_true] at lR9 lS9); (try k_sweep); (try dsimp only); (try k_fold))
  k_with "my cut" => (show Cut _ _ _ _ _ _; repeat' (first | exact Cut.here | refine' Cut.skip ?_ | refine' Cut.app ?_))
  k_with "call ref" => (k_here; (with_reducible show wpAny _ _ (call (Value.ref 149) _) _ _ _); k_dflt (refine' GivesS.use (by k_asm) (by k_asm) (by k_asm) (by k_asm) (by k_asm) (by first | exact rfl | assumption) (ct_take (by decide) (by decide)) (by assumption) (by k_extra "my cut") (by k_all) (by k_all) (by kd_subs) (by k_extra "my room") (by k_extra "my units") ?_); intro r9 t9 oS9 oR9 h9 tk9 F9 N9 src9 O9 D9; (k_dflt (obtain ⟨kk, tt, e9, p9, q9⟩ := D9; subst e9)); (try k_sweep); (try dsimp only); (try k_fold))
  k_with "call ref" => (k_here; (with_reducible show wpAny _ _ (call (Value.ref 163) _) _ _ _); refine stopW ?_)
  k_with "call ref" => (k_here; (with_reducible show wpAny _ _ (call (Value.ref 156) _) _ _ _); refine stopW ?_)
  k_with "pyIter ref" => (k_here; (with_reducible show wpAny _ _ (pyIter (Value.ref _)) (fun it s₂ => CompAt _ _ _ _ _ _ _ _ _ _ _ _ _ it s₂) _ _); (have k9 : StopC := by assumption); refine stopW ?_)
  k_with "call ref" => (k_here; (with_reducible show wpAny _ _ (call (Value.ref 182) _) _ _ _); k_dflt (refine' Gives.useB (by k_asm) (by k_asm) (by k_asm) (by k_asm) (by k_asm) (by first | exact rfl | assumption) (ct_rows (by assumption) (by assumption) (by assumption) (by assumption) (by assumption)) (by kd_subs) (by k_extra "my room") (by k_extra "my units") ?_); intro h9 tk9 F9 N9; (try k_sweep); (try dsimp only); (try k_fold))
  k_with "call ref" => (k_here; (with_reducible show wpAny _ _ (call (Value.ref 192) _) _ _ _); refine stopW ?_)
  k_with "call ref" => (k_here; (with_reducible show wpAny _ _ (call (Value.ref 135) _) _ _ _); refine stopW ?_)
  k_with "call ref" => (k_here; (with_reducible show wpAny _ _ (call (Value.ref 192) _) _ _ _); k_dflt (refine' Gives.useB (by k_asm) (by k_asm) (by k_asm) (by k_asm) (by k_asm) (by first | exact rfl | assumption) (g_dirs (by assumption) (by assumption) (by assumption) (by assumption)) (by kd_subs) (by k_extra "my room") (by k_extra "my units") ?_); intro h9 tk9 F9 N9; (try k_sweep); (try dsimp only); (try k_fold))
  k_with "subscriptTail List cons BinOp ref int" => (k_here; refine stopW ?_)
  k_with "compareOp NotEq ref ref" => (k_here; k_dflt (refine' cv_same (by k_asm) (by assumption) (by kd_subs) (by assumption) (by kd_subs) (by k_extra "my units") ?_))
  k_with "compareOp Eq ref ref" => (k_here; k_dflt (refine' nil_eq_nil (by k_asm) (by k_extra "kcj_q") (by k_extra "kcj_q") (by k_extra "my units") ?_))
  k_with "call ref" => (k_here; (with_reducible show wpAny _ _ (call (Value.ref 199) _) _ _ _); k_dflt (refine' GivesT.use (by k_asm) (by k_asm) (by k_asm) (by k_asm) (by k_asm) (by exact rfl) (ct_refused (by assumption) (by assumption)) (by kd_subs) (by k_extra "my room") (by k_extra "my units") ?_); intro h9 tk9 F9 N9; (try k_sweep); (try dsimp only); (try k_fold))
  trivial
set_option maxRecDepth 100000 in
set_option maxHeartbeats 8000000 in
theorem tst : PySem.Challenge.rw_on0222_01.Holds := Mine.hd (by
  k_go0
  all_goals try k_fold
  rename_i w1 w0 dP dS N0 X0
  have hM := kdMark
  have hC : StopC := ⟨⟩
  rename Below _ _ _ _ => K0
  rename Fr _ _ _ _ => FF
  replace K0 := below_at FF K0
  k_steps
  unfold StopW
  rename News _ _ _ _ => NL
  obtain ⟨n, hn⟩ : ∃ n : Nat, 2 + kk = (n : Int) := ⟨(2 + kk).toNat, by omega⟩
  have hn2 : 2 ≤ n ∧ n ≤ 4 := by omega
  refine comp_rangeN (n := n) (by with_unfolding_all rfl) (by assumption) hn (by unfold LenOk; omega) (by k_asm) NL rfl rfl ?_
  intro I s9 hs9
  obtain ⟨h8, e8⟩ := hs9
  subst e8
  refine CRest.each (DrawI S9 R9 oS9 oR9 _ n) (fun (i : Nat) t => [(PySem.Str.ofString "turn", .int (0 + (i : Int)) t)]) (fun _ => True) ?_ ?_ (List.range n) [] _ (fun _ _ => trivial) ⟨_, _, [], [], rfl, src9, Ord.nil, .nil, by simp, fun _ h => nomatch h⟩
  · intro i r ys news _ hI t own C oC D m₂ h tk E' k1 k2 k3 k4 k5 k6
    obtain ⟨oS, oR, t2, pts, rfl, src, ho, hd, hn, hb⟩ := hI
    k_steps
    unfold StopW
    exact draw_turn K0 (by k_asm) (by k_asm) (by k_asm) (by k_asm) rfl src ho hd hn hb k5 k6 (by k_all) (by k_all) (by ktr_room) (by ktr_units)
  · intro ys news hI
    obtain ⟨oS, oR, t2, pts, rfl, src, ho, hd, hn, hb⟩ := hI
    have hyl : ys.length = pts.length := by rw [hd.length, List.length_map]
    have hpn : pts.length = n := by simpa using hn
    have hyo : LenOk ys.length := by unfold LenOk; omega
    k_steps
    unfold StopW
    rename News _ _ _ _ => NL
    k_dflt (refine' use_one K0 (by k_asm) (by k_asm) NL (by k_asm) rfl src (by k_extra "my cut") (by k_all) (by k_all) (by k_extra "kcj_q") (by simp) (by simp) (by ktr_room) (by ktr_units) ?_)
    intro r8 t8 oS8 oR8 h8 tk8 F8 N8 src8 O8 D8
    obtain ⟨big, N10, off10, cut10, cutA, cutM⟩ := law_cut dP N8 (by k_extra "kcj_q")
    have mC := cutM (o := tupO ys 0) (by k_extra "kcj_q") (by k_extra "my ne")
    have hdA := cutA (hd.mono (by kd_subs))
    have dc : DatIn big _ (cvd pts) := cut10 (DatIn.tuple (vs := ys) (by k_extra "kcj_q") (hd.mono (by kd_subs)))
    obtain ⟨t, dt, bt⟩ : ∃ t, DatIn big r8 (qd t) ∧ Bd 2 t := by
      simp only [List.mem_cons, List.not_mem_nil, or_false] at D8
      rcases D8 with rfl | rfl | rfl | rfl | rfl | rfl
      · exact menu_cut cut10 0 1 (by k_extra "my dat") (by decide) (by decide)
      · exact menu_cut cut10 1 1 (by k_extra "my dat") (by decide) (by decide)
      · exact menu_cut cut10 1 2 (by k_extra "my dat") (by decide) (by decide)
      · exact menu_cut cut10 2 3 (by k_extra "my dat") (by decide) (by decide)
      · exact menu_cut cut10 (-1) 2 (by k_extra "my dat") (by decide) (by decide)
      · exact menu_cut cut10 3 2 (by k_extra "my dat") (by decide) (by decide)
    have hc2 : 2 ≤ pts.length ∧ pts.length ≤ 4 := by omega
    have h1 : 1 ≤ pts.length := by omega
    have hl : LenOk pts.length := by unfold LenOk; omega
    have bc : ∀ p ∈ pts, Bp 900 p := fun p hp => (hb p hp).mono (by decide)
    clear N8 NL D8
    k_steps
    unfold StopW
    rename News _ _ _ _ => NL
    k_dflt (refine' item_word NL (by k_extra "kcj_q") (by omega) ?_ (by with_unfolding_all rfl))
    intro wd tw hW
    obtain ⟨p0, p1, ps, v0, v1, vr, rfl, rfl, d0, d1, dr⟩ := pts2 hdA hc2.1
    have hv1 : (v1 :: vr).length ≤ 10 := by simp only [List.length_cons] at hyl hc2 ⊢; omega
    have hv9 : (v1 :: vr).length ≤ 1000 := Nat.le_trans hv1 (by decide)
    k_steps
    unfold StopW
    rename News _ _ _ _ => NL
    k_dflt (refine' use_curve K0 (by k_asm) (by k_asm) NL (by k_asm) rfl hW (by k_extra "kcj_q") d0 d1 dr (by kd_subs) hv1 (by ktr_room) (by ktr_units) ?_)
    intro r7 t7 h7 tk7 F7 N7 O7 D7
    obtain ⟨rA, rn, rvs, rfl, rm, rd, rl⟩ := cvd_open D7
    obtain ⟨big2, N6, off6, cut6, cutA6, cutM6⟩ := law_cut dP N7 (by k_extra "kcj_q")
    replace D7 := cut6 D7
    replace dc := cut6 (dc.mono (by kd_subs))
    replace d0 := cut6 (d0.mono (by kd_subs))
    replace mC := cutM6 (by k_extra "kcj_q") (off10 _ mC)
    clear N7 NL dt O7
    k_steps
    unfold StopW
    rename News _ _ _ _ => NL
    have b0 : Bp 900 p0 := bc _ (.head _)
    k_dflt (refine' use_dirs K0 (by k_asm) (by k_asm) NL (by k_asm) rfl (dat_q4 (by k_extra "kcj_q") d0 (by kd_subs) (dat_qq (by k_extra "kcj_q") (by k_extra "kcj_q") (by k_extra "kcj_q"))) (Nat.le_of_ble_eq_true rfl) (by exact Nat.le_of_ble_eq_true rfl) (bp4 b0) (by ktr_room) (by ktr_units) ?_)
    intro h6 tk6 F6 N6'
    k_steps
    unfold StopW
    rename News _ _ _ _ => NL
    k_dflt (refine' use_dirs K0 (by k_asm) (by k_asm) NL (by k_asm) rfl (dat_q3 (by k_extra "kcj_q") d0 (by kd_subs) (dat_qq (by k_extra "kcj_q") (by k_extra "kcj_q") (by k_extra "kcj_q"))) (Nat.le_of_ble_eq_true rfl) (by exact Nat.le_of_ble_eq_true rfl) (bp3 b0) (by ktr_room) (by ktr_units) ?_)
    intro h5 tk5 F5 N5
    k_steps
    unfold StopW
    rename News _ _ _ _ => NL
    obtain ⟨big3, N3, off3, cut3, cutA3, cutM3⟩ := law_cut (by assumption) NL (by k_extra "kcj_q")
    have key := fun (a : Addr) (o : Obj) => @cutM3 a o
    refine comp_list (by with_unfolding_all rfl) (by k_asm) N3 (.tail _ (cutM3 (by k_extra "kcj_q") (by k_extra "my ne"))) rfl rfl (by exact Nat.le_of_ble_eq_true rfl) ?_
    intro I9 s9 hs9
    obtain ⟨h4, e4⟩ := hs9
    subst e4
    clear NL
    refine CRest.nothing (ok := OddIs big3) ?_ ?_ _ ?_
    · intro v hv own C oC D m₂ h tk E' k1 k2 k3 k4 k5 k6
      obtain ⟨sA, n', wd', t', vr', rfl, hm, hW'⟩ := hv
      k_steps
    · k_steps
    · intro v hv
      simp only [List.mem_cons, List.not_mem_nil, or_false] at hv
      rcases hv with rfl | rfl | rfl | rfl | rfl
      all_goals exact ⟨_, _, _, _, _, rfl, cutM3 (by k_extra "kcj_q") (by k_extra "my ne"), by unfold WordIs; decide⟩)
end
end Mine
set_option maxRecDepth 100000 in
theorem PySem.Challenge.cw_on0222_01_holds : PySem.Challenge.rw_on0222_01.Holds := by
  exact Mine.tst
