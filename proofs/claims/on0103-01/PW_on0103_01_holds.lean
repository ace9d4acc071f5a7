import PyProof.Rows.All
import Wide.All
import OpenK.AllK
import Wide.FinOn
import Lean
import PySem.Challenge.RW_on0103_01
open PySem PySem.W PyProof.Rows PySem.Calls PySem.Spec
set_option Elab.async false
namespace Mine
theorem hole1 {Q P : Prop} (hl : P) (k : P → Q) : Q := k hl
theorem hole3 {Q P R W : Prop} (hl : P) (hc : R) (hw : W) (k : P → R → W → Q) : Q := k hl hc hw
/- the written heap (hd.heap_1) and the view, once for all: the statement says nothing -/
set_option maxRecDepth 100000 in
set_option maxHeartbeats 8000000 in
theorem hd (abs : False) : PySem.Challenge.rw_on0103_01.row.Holds := by
  w_on
  apply hole3
  case k =>
    intro p1 p2 p3
    clear p1 p2 p3
    k_head
  case hl => exact abs.elim
  case hc => exact abs.elim
  case hw => exact abs.elim
/-- the top comes through in every world: one check -/
theorem top_ok : LeftO PySem.Challenge.rw_on0103_01.row.prog hd.view_1 [] (fun s => xlAt hd.view_1 [] s && recOk PySem.Challenge.rw_on0103_01.row.records s)
    (kHook hd.heap_1 (2 :: 3 :: 15 :: 17 :: 18 :: 20 :: 21 :: 22 :: 24 :: 25 :: 27 :: 28 :: 29 :: 31 :: 32 :: 34 :: 35 :: 36 :: 38 :: 39 :: 41 :: 42 :: 43 :: 45 :: 46 :: 48 :: 49 :: 50 :: 52 :: 53 :: 55 :: 56 :: 57 :: 59 :: 60 :: 62 :: 63 :: 64 :: 66 :: 67 :: 69 :: 70 :: 71 :: 73 :: 74 :: 76 :: 77 :: 78 :: 80 :: 81 :: 83 :: 84 :: 85 :: 87 :: 88 :: 90 :: 91 :: 92 :: 94 :: 95 :: 97 :: 98 :: 99 :: 101 :: 102 :: 104 :: 105 :: 106 :: 108 :: 109 :: 111 :: 112 :: 113 :: 115 :: 116 :: 118 :: 119 :: 120 :: 122 :: 123 :: 125 :: 126 :: 127 :: 129 :: 130 :: 132 :: 133 :: 134 :: 136 :: 137 :: 139 :: 140 :: 141 :: 143 :: 144 :: 146 :: 147 :: 148 :: 150 :: 151 :: 153 :: 154 :: 155 :: 157 :: 158 :: 160 :: 161 :: 162 :: 164 :: 165 :: 167 :: 168 :: 169 :: 171 :: 172 :: 174 :: 175 :: 176 :: 178 :: 179 :: 181 :: 182 :: 183 :: 185 :: 186 :: 188 :: 189 :: 190 :: 192 :: 193 :: 195 :: 196 :: 197 :: 199 :: 200 :: 202 :: 203 :: 204 :: 206 :: 207 :: 209 :: 210 :: 211 :: 213 :: 214 :: 216 :: 217 :: 218 :: 220 :: 221 :: 223 :: 224 :: 225 :: 227 :: 228 :: 230 :: 231 :: 232 :: 234 :: 235 :: 237 :: 238 :: 239 :: 241 :: 242 :: 244 :: 245 :: 246 :: 249 :: 250 :: []) (fun _ => by kernel_rfl)).obs
    (kHook hd.heap_1 (2 :: 3 :: 15 :: 17 :: 18 :: 20 :: 21 :: 22 :: 24 :: 25 :: 27 :: 28 :: 29 :: 31 :: 32 :: 34 :: 35 :: 36 :: 38 :: 39 :: 41 :: 42 :: 43 :: 45 :: 46 :: 48 :: 49 :: 50 :: 52 :: 53 :: 55 :: 56 :: 57 :: 59 :: 60 :: 62 :: 63 :: 64 :: 66 :: 67 :: 69 :: 70 :: 71 :: 73 :: 74 :: 76 :: 77 :: 78 :: 80 :: 81 :: 83 :: 84 :: 85 :: 87 :: 88 :: 90 :: 91 :: 92 :: 94 :: 95 :: 97 :: 98 :: 99 :: 101 :: 102 :: 104 :: 105 :: 106 :: 108 :: 109 :: 111 :: 112 :: 113 :: 115 :: 116 :: 118 :: 119 :: 120 :: 122 :: 123 :: 125 :: 126 :: 127 :: 129 :: 130 :: 132 :: 133 :: 134 :: 136 :: 137 :: 139 :: 140 :: 141 :: 143 :: 144 :: 146 :: 147 :: 148 :: 150 :: 151 :: 153 :: 154 :: 155 :: 157 :: 158 :: 160 :: 161 :: 162 :: 164 :: 165 :: 167 :: 168 :: 169 :: 171 :: 172 :: 174 :: 175 :: 176 :: 178 :: 179 :: 181 :: 182 :: 183 :: 185 :: 186 :: 188 :: 189 :: 190 :: 192 :: 193 :: 195 :: 196 :: 197 :: 199 :: 200 :: 202 :: 203 :: 204 :: 206 :: 207 :: 209 :: 210 :: 211 :: 213 :: 214 :: 216 :: 217 :: 218 :: 220 :: 221 :: 223 :: 224 :: 225 :: 227 :: 228 :: 230 :: 231 :: 232 :: 234 :: 235 :: 237 :: 238 :: 239 :: 241 :: 242 :: 244 :: 245 :: 246 :: 249 :: 250 :: []) (fun _ => by kernel_rfl)).val 2364 := by
  intro w
  kernel_rfl
set_option maxRecDepth 100000
-- nolocal
/-- a contract: the call comes back with one value, the ledger stands -/
def Ct0 (w : World) (f : Addr) (D : Nat) (news : List (Addr × Obj)) (vs : List Value) (Post : Value → Prop) : Prop :=
  ∀ (p : Program) (loose : List Str) (mean : ExcName → Option Value) (mg mb : Str → Option Value) (dp un : Nat) (gd : Option (List Code)) (cn : Str) (cs : Scope) (a : Addr) (ccd : Value) (cl : List (Str × Addr)) (outer : List Env) (A₀ : Around) (base h₀ : Heap) (L : Addr) (m : Str → Option Value) (s : Shared) (Q E : Value → Shared → Prop),
    Below A₀ base outer h₀ → Fr h₀ L s.heap m → (hd.heap_1 w.params).In h₀ → News h₀ L s.heap news → Top p loose mean mg mb h₀ → cs.kind = .function → dp + D < recursionLimit → un + 8 * D < cLine →
    (∀ r h' tk', Fr h₀ L h' m → News h₀ L h' news → Post r → Q r { s with heap := h', toks := tk' }) →
    wpAny (model PySem.Challenge.rw_on0103_01.row.prog w) (ktrTop dp un gd cn cs L a ccd cl outer) (call (.ref f) vs) Q E s

theorem end0 {h₀ h' : Heap} {L : Addr} {m : Str → Option Value} {news news' : List (Addr × Obj)} {s : Shared} {Q : Value → Shared → Prop} {Post : Value → Prop} {r : Value} {tk' : Nat}
    (hret : ∀ r h' tk', Fr h₀ L h' m → News h₀ L h' news → Post r → Q r { s with heap := h', toks := tk' })
    (F : Fr h₀ L h' m) (N : News h₀ L h' news') (hs : ∀ p ∈ news, p ∈ news') (hp : Post r) : Q r { s with heap := h', toks := tk' } :=
  hret r h' tk' F (fun p hp => N p (hs p hp)) hp
theorem Ct0.use {w : World} {f : Addr} {D : Nat} {news : List (Addr × Obj)} {vs : List Value} {Post : Value → Prop} (C : Ct0 w f D news vs Post)
    {p : Program} {loose : List Str} {mean : ExcName → Option Value} {mg mb : Str → Option Value} {dp un : Nat} {gd : Option (List Code)} {cn : Str} {cs : Scope} {a : Addr} {ccd : Value} {cl : List (Str × Addr)} {outer : List Env} {A₀ : Around} {base h₀ : Heap} {L : Addr} {m : Str → Option Value} {s : Shared} {Q E : Value → Shared → Prop}
    (B : Below A₀ base outer h₀) (F : Fr h₀ L s.heap m) (X : (hd.heap_1 w.params).In h₀) (N : News h₀ L s.heap news) (T : Top p loose mean mg mb h₀) (hk : cs.kind = .function) (hd : dp + D < recursionLimit) (hu : un + 8 * D < cLine)
    (ret : ∀ r h' tk', Fr h₀ L h' m → News h₀ L h' news → Post r → Q r { s with heap := h', toks := tk' }) :
    wpAny (model PySem.Challenge.rw_on0103_01.row.prog w) (ktrTop dp un gd cn cs L a ccd cl outer) (call (.ref f) vs) Q E s :=
  C p loose mean mg mb dp un gd cn cs a ccd cl outer A₀ base h₀ L m s Q E B F X N T hk hd hu ret

/-- a contract: the call comes back with one new object -/
def CtT (w : World) (f : Addr) (D : Nat) (news : List (Addr × Obj)) (vs : List Value) (Post : Obj → Prop) : Prop :=
  ∀ (p : Program) (loose : List Str) (mean : ExcName → Option Value) (mg mb : Str → Option Value) (dp un : Nat) (gd : Option (List Code)) (cn : Str) (cs : Scope) (a : Addr) (ccd : Value) (cl : List (Str × Addr)) (outer : List Env) (A₀ : Around) (base h₀ : Heap) (L : Addr) (m : Str → Option Value) (s : Shared) (Q E : Value → Shared → Prop),
    Below A₀ base outer h₀ → Fr h₀ L s.heap m → (hd.heap_1 w.params).In h₀ → News h₀ L s.heap news → Top p loose mean mg mb h₀ → cs.kind = .function → dp + D < recursionLimit → un + 8 * D < cLine →
    (∀ D h' tk' o, Fr h₀ L h' m → News h₀ L h' ((D, o) :: news) → (∀ p ∈ news, p.1 < D) → Post o → Q (.ref D) { s with heap := h', toks := tk' }) →
    wpAny (model PySem.Challenge.rw_on0103_01.row.prog w) (ktrTop dp un gd cn cs L a ccd cl outer) (call (.ref f) vs) Q E s
theorem CtT.use {w : World} {f : Addr} {D : Nat} {news : List (Addr × Obj)} {vs : List Value} {Post : Obj → Prop} (C : CtT w f D news vs Post)
    {p : Program} {loose : List Str} {mean : ExcName → Option Value} {mg mb : Str → Option Value} {dp un : Nat} {gd : Option (List Code)} {cn : Str} {cs : Scope} {a : Addr} {ccd : Value} {cl : List (Str × Addr)} {outer : List Env} {A₀ : Around} {base h₀ : Heap} {L : Addr} {m : Str → Option Value} {s : Shared} {Q E : Value → Shared → Prop}
    (B : Below A₀ base outer h₀) (F : Fr h₀ L s.heap m) (X : (hd.heap_1 w.params).In h₀) (N : News h₀ L s.heap news) (T : Top p loose mean mg mb h₀) (hk : cs.kind = .function) (hd : dp + D < recursionLimit) (hu : un + 8 * D < cLine)
    (ret : ∀ D h' tk' o, Fr h₀ L h' m → News h₀ L h' ((D, o) :: news) → (∀ p ∈ news, p.1 < D) → Post o → Q (.ref D) { s with heap := h', toks := tk' }) :
    wpAny (model PySem.Challenge.rw_on0103_01.row.prog w) (ktrTop dp un gd cn cs L a ccd cl outer) (call (.ref f) vs) Q E s :=
  C p loose mean mg mb dp un gd cn cs a ccd cl outer A₀ base h₀ L m s Q E B F X N T hk hd hu ret

def Hold (P : Prop) : Prop := P
theorem hold {P : Prop} (h : Hold P) : P := h
/-- a bound that burns, hidden -/
structure Small (a : Nat) : Prop where
  lt : a < 2 ^ 40
/-- a vector as the program holds it -/
abbrev vecO (w a b : Nat) (t1 t2 t3 : Tok) (c : Nat) : Obj := { cls := .type "tuple", data := .seq #[.int (w : Int) t1, .int (a : Int) t2, .int (b : Int) t3] c }
def bit (a i : Nat) : Nat := a / 2 ^ i % 2
def cd (a b i : Nat) : Nat := bit a i + 2 * bit b i

section
variable {prog : Program} {w : World} {A : Around} {E : Value → Shared → Prop} {s : Shared} {a b : Nat} {t u : Tok} {Q : Value → Shared → Prop}
theorem toNat_c (a : Nat) : ((a : Int)).toNat = a := by omega
theorem nat_xor_and (a : Nat) : ∀ b : Nat, (a ^^^ b) + 2 * (a &&& b) = a + b := by
  induction a using Nat.strongRecOn with
  | ind a ih =>
    intro b
    by_cases ha : a = 0
    · subst ha; simp
    · have h := ih (a / 2) (by omega) (b / 2)
      have h1 : (a ^^^ b) / 2 = a / 2 ^^^ b / 2 := Nat.xor_div_two
      have h2 : (a &&& b) / 2 = a / 2 &&& b / 2 := Nat.and_div_two
      have h3 := @Nat.and_mod_two_eq_one a b
      have h4 := @Nat.xor_mod_two_eq_one a b
      omega
theorem pow_c (b : Nat) : (2 : Int) ^ b = ((2 ^ b : Nat) : Int) := (kbt_cast b).symm
theorem lit1 : (1 : Int) = ((1 : Nat) : Int) := rfl
theorem lit2 : (2 : Int) = ((2 : Nat) : Int) := rfl
theorem lit255 : (255 : Int) = ((255 : Nat) : Int) := rfl
theorem lit0 : (0 : Int) = ((0 : Nat) : Int) := rfl
theorem lit8 : (8 : Int) = ((8 : Nat) : Int) := rfl
theorem sub1_c {n : Nat} (h : 0 < n) : (n : Int) - 1 = ((n - 1 : Nat) : Int) := by omega
variable {x y : Int}
theorem n_and (hx : x = (a : Int)) (hy : y = (b : Int)) (h : Q (.int ((a &&& b : Nat) : Int) s.toks) { s with toks := s.toks + 1 }) : wpAny (model prog w) A (binaryOp .BitAnd (.int x t) (.int y u)) Q E s :=
  and_int (by subst hx; subst hy; rw [bitAnd_pp (Int.natCast_nonneg a) (Int.natCast_nonneg b), toNat_c, toNat_c]; exact h)
theorem n_or (hx : x = (a : Int)) (hy : y = (b : Int)) (h : Q (.int ((a ||| b : Nat) : Int) s.toks) { s with toks := s.toks + 1 }) : wpAny (model prog w) A (binaryOp .BitOr (.int x t) (.int y u)) Q E s :=
  or_int (by
    subst hx; subst hy
    have e := nat_or_add_and a b
    rw [bitOr_and, bitAnd_pp (Int.natCast_nonneg a) (Int.natCast_nonneg b), toNat_c, toNat_c, show (a : Int) + b - ((a &&& b : Nat) : Int) = ((a ||| b : Nat) : Int) by omega]; exact h)
theorem n_xor (hx : x = (a : Int)) (hy : y = (b : Int)) (h : Q (.int ((a ^^^ b : Nat) : Int) s.toks) { s with toks := s.toks + 1 }) : wpAny (model prog w) A (binaryOp .BitXor (.int x t) (.int y u)) Q E s :=
  xor_int (by
    subst hx; subst hy
    have e := nat_xor_and a b
    rw [bitXor_and, bitAnd_pp (Int.natCast_nonneg a) (Int.natCast_nonneg b), toNat_c, toNat_c, show (a : Int) + b - 2 * ((a &&& b : Nat) : Int) = ((a ^^^ b : Nat) : Int) by omega]; exact h)
theorem n_shl (hx : x = (a : Int)) (hy : y = (b : Int)) (hb : b ≤ 1000000) (ha : a < 2 ^ 64) (h : Q (.int ((a * 2 ^ b : Nat) : Int) s.toks) { s with toks := s.toks + 1 }) : wpAny (model prog w) A (binaryOp .LShift (.int x t) (.int y u)) Q E s :=
  lshift_int_small (by omega) (by omega) (by omega) (by subst hx; subst hy; rw [toNat_c, pow_c, ← Int.natCast_mul]; exact h)
theorem n_shr (hx : x = (a : Int)) (hy : y = (b : Int)) (h : Q (.int ((a / 2 ^ b : Nat) : Int) s.toks) { s with toks := s.toks + 1 }) : wpAny (model prog w) A (binaryOp .RShift (.int x t) (.int y u)) Q E s :=
  rshift_int (by omega) (by subst hx; subst hy; rw [toNat_c, pow_c, Int.fdiv_eq_ediv_of_nonneg _ (Int.natCast_nonneg _), ← Int.natCast_ediv]; exact h)
theorem n_add (hx : x = (a : Int)) (hy : y = (b : Int)) (h : Q (.int ((a + b : Nat) : Int) s.toks) { s with toks := s.toks + 1 }) : wpAny (model prog w) A (binaryOp .Add (.int x t) (.int y u)) Q E s :=
  add_int (by subst hx; subst hy; rw [← Int.natCast_add]; exact h)
theorem n_iadd (hx : x = (a : Int)) (hy : y = (b : Int)) (h : Q (.int ((a + b : Nat) : Int) s.toks) { s with toks := s.toks + 1 }) : wpAny (model prog w) A (inplaceOp .Add (.int x t) (.int y u)) Q E s :=
  iadd_int (by subst hx; subst hy; rw [← Int.natCast_add]; exact h)
theorem n_ishr (hx : x = (a : Int)) (hy : y = (b : Int)) (h : Q (.int ((a / 2 ^ b : Nat) : Int) s.toks) { s with toks := s.toks + 1 }) : wpAny (model prog w) A (inplaceOp .RShift (.int x t) (.int y u)) Q E s :=
  irshift_int (by omega) (by subst hx; subst hy; rw [toNat_c, pow_c, Int.fdiv_eq_ediv_of_nonneg _ (Int.natCast_nonneg _), ← Int.natCast_ediv]; exact h)
theorem n_sub (hx : x = (a : Int)) (hy : y = (b : Int)) (hab : b ≤ a) (h : Q (.int ((a - b : Nat) : Int) s.toks) { s with toks := s.toks + 1 }) : wpAny (model prog w) A (binaryOp .Sub (.int x t) (.int y u)) Q E s :=
  sub_int (by rw [show x - y = ((a - b : Nat) : Int) by omega]; exact h)
theorem n_max {h₀ : Heap} {L : Addr} {m : Str → Option Value} {news : List (Addr × Obj)} (hh : A.handled = none) (F : Fr h₀ L s.heap m) (N : News h₀ L s.heap news) (hx : x = (a : Int)) (hy : y = (b : Int))
    (h : ∀ h' tk t', Fr h₀ L h' m → News h₀ L h' news → Q (.int ((max a b : Nat) : Int) t') { s with heap := h', toks := tk }) : wpAny (model prog w) A (call (.builtin "max") [.int x t, .int y u]) Q E s :=
  max_two_N hh F N fun h' tk F' N' => by
    have := h h' tk (if y > x then u else t) F' N'
    rw [show (if y > x then y else x) = ((max a b : Nat) : Int) by (split <;> omega)]
    exact this
theorem n_min {h₀ : Heap} {L : Addr} {m : Str → Option Value} {news : List (Addr × Obj)} (hh : A.handled = none) (F : Fr h₀ L s.heap m) (N : News h₀ L s.heap news) (hx : x = (a : Int)) (hy : y = (b : Int))
    (h : ∀ h' tk t', Fr h₀ L h' m → News h₀ L h' news → Q (.int ((min a b : Nat) : Int) t') { s with heap := h', toks := tk }) : wpAny (model prog w) A (call (.builtin "min") [.int x t, .int y u]) Q E s :=
  min_two_N hh F N fun h' tk F' N' => by
    have := h h' tk (if y < x then u else t) F' N'
    rw [show (if y < x then y else x) = ((min a b : Nat) : Int) by (split <;> omega)]
    exact this
end

-- nolocal
abbrev S (l : List Nat) : Str := ⟨l.toArray⟩
def chs (cs : List Nat) : List Str := cs.map fun c => S [c]
theorem chs_len (cs : List Nat) : (chs cs).length = cs.length := List.length_map _
theorem chs_app (a b : List Nat) : chs (a ++ b) = chs a ++ chs b := List.map_append
theorem chs_rev (a : List Nat) : (chs a).reverse = chs a.reverse := (List.map_reverse).symm
theorem S_app (a b : List Nat) : S a ++ S b = S (a ++ b) := by
  show Str.append (S a) (S b) = _
  simp [Str.append]
theorem join_chs : ∀ cs : List Nat, Str.join Str.empty (chs cs) = S cs
  | [] => rfl
  | [c] => rfl
  | c :: d :: r => by
    show S [c] ++ Str.empty ++ Str.join Str.empty (chs (d :: r)) = _
    rw [join_chs (d :: r), show S [c] ++ Str.empty = S [c] from rfl, S_app]
    rfl
theorem chs_sum : ∀ cs : List Nat, ((chs cs).map (·.length)).sum = cs.length
  | [] => rfl
  | c :: r => by
    show (S [c]).length + ((chs r).map (·.length)).sum = _
    rw [chs_sum r]
    show 1 + r.length = r.length + 1
    omega
theorem s_empty : Str.ofString "" = Str.empty := by decide +kernel
theorem strs_rev : ∀ {vs : List Value} {ss : List Str}, StrsAre vs ss → StrsAre vs.reverse ss.reverse
  | _, _, .nil => .nil
  | _, _, .cons y t r => by
    rw [List.reverse_cons, List.reverse_cons]
    exact StrsAre.append' (strs_rev r) (.cons _ _ .nil)

section
variable {prog : Program} {w : World} {A : Around} {E : Value → Shared → Prop} {s : Shared} {h₀ : Heap} {L D : Addr} {m : Str → Option Value} {news news' : List (Addr × Obj)} {Q : Value → Shared → Prop}
theorem rev_K {us : List Value} {n : Nat} (F : Fr h₀ L s.heap m) (N : News h₀ L s.heap news) (U : Upd D (listOf us.toArray n) (listOf us.reverse.toArray n) news news') (hz : us.length ≤ 100000)
    (h : ∀ h', Fr h₀ L h' m → News h₀ L h' news' → Q .none { s with heap := h' }) : wpAny (model prog w) A (call (.builtin "list.reverse") [.ref D]) Q E s :=
  kl_reverse F N (by simp) U (by rw [List.toList_toArray, sizeLine_eq]; omega) h
theorem join_K {us : List Value} {n : Nat} {ys : List Str} {cs : List Nat} {t : Tok} (N : News h₀ L s.heap news) (hm : (D, listOf us.toArray n) ∈ news) (hS : StrsAre us ys) (hy : ys = chs cs) (hl : cs.length ≤ 100000)
    (h : ∀ t' k, Q (.str (S cs) t') { s with toks := k }) : wpAny (model prog w) A (call (.builtin "str.join") [.str (Str.ofString "") t, .ref D]) Q E s := by
  subst hy
  refine join_list (x := Str.ofString "") (items := us.toArray) (ys := chs cs) (N.isList hm) (by simpa using hS) ?_ ?_
  · rw [chs_sum, s_empty]
    show cs.length + (chs cs).length * 0 ≤ _
    omega
  · intro t' k
    have e : Txt.join (Str.ofString "") (chs cs) = S cs := by
      rw [s_empty]
      show Builtin.Str.glued _ _ = _
      rw [StrLaws.glued_eq_join, join_chs]
    rw [e]
    exact h t' k
theorem item_S {l : List Nat} {i c : Nat} (h : l[i]? = some c) : Txt.item (S l) (i : Int) = S [c] :=
  item_meets (Int.natCast_nonneg i) (by rw [toNat_c]; simpa using h)
theorem str_item {value slice : Expr} {x : Str} {t : Tok} {l : List Nat} {k : Int} {i c : Nat} {u : Tok} (hx : x = S l) (hk : k = (i : Int)) (hc : l[i]? = some c) (hl : l.length ≤ 100000)
    (h : ∀ t' tk, Q (.str (S [c]) t') { s with toks := tk })
    (hs : subscripted slice false (.str x t) (.int k u) = operate [.str x t, .int k u] (getItem (.str x t) (.int k u)) := by with_unfolding_all rfl)
    (ht : ∀ r, letTemporaryGo value (.str x t) r = pure () := by intro _; with_unfolding_all rfl) :
    wpAny (model prog w) A (subscriptTail value slice (.str x t) (.int k u)) Q E s := by
  subst hx hk
  have hi : i < l.length := by
    rcases Nat.lt_or_ge i l.length with h1 | h1
    · exact h1
    · rw [List.getElem?_eq_none h1] at hc; cases hc
  refine item_str (by unfold fitsSsize; simp; omega) (by omega) (by show (i : Int) < ((S l).cps.size : Nat); simp; omega) (fun _ => ?_) hs ht
  rw [item_S hc]
  exact h _ _
theorem join_1 {x : Str} {t1 : Tok} {n : Nat} {t : Tok} (N : News h₀ L s.heap news) (hm : (D, listOf #[.str x t1] n) ∈ news) (hl : x.length ≤ 100000)
    (h : ∀ t' k, Q (.str x t') { s with toks := k }) : wpAny (model prog w) A (call (.builtin "str.join") [.str (Str.ofString "") t, .ref D]) Q E s := by
  refine join_list (x := Str.ofString "") (items := #[.str x t1]) (ys := [x]) (N.isList hm) (.cons _ _ .nil) ?_ ?_
  · rw [s_empty]; simp only [List.map_cons, List.map_nil, List.sum_cons, List.sum_nil, List.length_cons, List.length_nil]; show x.length + 0 + 1 * 0 ≤ _; omega
  · intro t' k
    have e : Txt.join (Str.ofString "") [x] = x := by
      rw [s_empty]
      show Builtin.Str.glued _ _ = _
      rw [StrLaws.glued_eq_join]
      rfl
    rw [e]
    exact h t' k
theorem join_2 {x y : Str} {t1 t2 : Tok} {n : Nat} {t : Tok} (N : News h₀ L s.heap news) (hm : (D, listOf #[.str x t1, .str y t2] n) ∈ news) (hl : x.length ≤ 100000) (hl2 : y.length ≤ 100000)
    (h : ∀ t' k, Q (.str (x ++ y) t') { s with toks := k }) : wpAny (model prog w) A (call (.builtin "str.join") [.str (Str.ofString "") t, .ref D]) Q E s := by
  refine join_list (x := Str.ofString "") (items := #[.str x t1, .str y t2]) (ys := [x, y]) (N.isList hm) (.cons _ _ (.cons _ _ .nil)) ?_ ?_
  · rw [s_empty]; simp only [List.map_cons, List.map_nil, List.sum_cons, List.sum_nil, List.length_cons, List.length_nil]; show x.length + (y.length + 0) + 2 * 0 ≤ _; omega
  · intro t' k
    have e : Txt.join (Str.ofString "") [x, y] = x ++ y := by
      rw [s_empty]
      show Builtin.Str.glued _ _ = _
      rw [StrLaws.glued_eq_join]
      show x ++ Str.empty ++ y = _
      rw [show x ++ Str.empty = x from Str.ext' (by simp [Str.cps_append, Str.empty])]
    rw [e]
    exact h t' k
theorem n_chr {x : Int} {r : Nat} {t : Tok} (hx : x = (r : Int)) (hr : r ≤ 1114111) (h : ∀ t' k, Q (.str (S [r]) t') { s with toks := k }) : wpAny (model prog w) A (call (.builtin "chr") [.int x t]) Q E s :=
  chr_of_range (by omega) (by omega) (by
    have e : x.toNat = r := by omega
    rw [e]
    exact h _ _)
theorem n_ord {c : Nat} {t : Tok} (h : ∀ t' k, Q (.int (c : Int) t') { s with toks := k }) : wpAny (model prog w) A (call (.builtin "ord") [.str (S [c]) t]) Q E s := P.ord_of_char (h _ _)
end

-- nolocal
theorem S_len (l : List Nat) : (S l).length = l.length := by show l.toArray.size = _; simp
theorem S_toList (x : Str) : x = S x.cps.toList := by
  show x = ⟨x.cps.toList.toArray⟩
  rw [Array.toArray_toList]
def padL (c : Nat) (i : Int) (l : List Nat) : List Nat := List.replicate (i.toNat - l.length) c ++ l
theorem rjustF_S (l : List Nat) (i : Int) (c : Nat) : Txt.rjustF (S l) i c = S (padL c i l) := by
  have h := rjustF_list (S l) i c
  rw [S_len] at h
  rw [S_toList (Txt.rjustF (S l) i c), h]
  rfl
theorem rjust_S (l : List Nat) (i : Int) : Txt.rjust (S l) i = S (padL 32 i l) := rjustF_S l i 32
theorem sl_from (l : List Nat) (i : Nat) : Txt.slice (S l) (some (i : Int)) none = S (l.drop i) := by
  by_cases h : i ≤ l.length
  · rw [slice_from_eq (x := S l) (i := (i : Int)) (b := (l.length : Int)) (by omega) (by rw [S_len]; omega) (by rw [S_len]), toNat_c, show ((l.length : Int) - (i : Int)).toNat = l.length - i by omega]
    show S ((l.drop i).take (l.length - i)) = _
    rw [List.take_of_length_le (by rw [List.length_drop]; omega)]
  · rw [slice_beyond (by rw [S_len]; omega), List.drop_eq_nil_of_le (by omega)]
    rfl
theorem sl_to (l : List Nat) (j : Nat) : Txt.slice (S l) none (some (j : Int)) = S (l.take j) := by
  have key : ∀ k : Nat, k ≤ l.length → Txt.slice (S l) none (some (k : Int)) = S (l.take k) := by
    intro k hk
    have h := eq_of_beq (slice_closes_toL (x := S l) (j := (k : Int)) (by omega) (by rw [S_len]; omega))
    rw [h, show ((k : Int) - 0).toNat = k by omega]
    show S (((S l).cps.toList.drop 0).take k) = _
    rw [List.drop_zero]
  by_cases h : j ≤ l.length
  · exact key j h
  · rw [slice_to_beyond (by rw [S_len]; omega), S_len, key l.length (Nat.le_refl _), List.take_of_length_le (Nat.le_refl _), List.take_of_length_le (by omega)]
theorem sl_from_neg (l : List Nat) {k : Nat} (hk : 0 < k) : Txt.slice (S l) (some (-(k : Int))) none = S (l.drop (l.length - k)) := by
  rw [slice_from_neg (by omega), S_len, show max 0 ((l.length : Int) + -(k : Int)) = ((l.length - k : Nat) : Int) by omega, sl_from]
theorem sl_to_neg (l : List Nat) {k : Nat} (hk : 0 < k) : Txt.slice (S l) none (some (-(k : Int))) = S (l.take (l.length - k)) := by
  rw [slice_to_neg (by omega), S_len, show max 0 ((l.length : Int) + -(k : Int)) = ((l.length - k : Nat) : Int) by omega, sl_to]

section
variable {prog : Program} {w : World} {A : Around} {E : Value → Shared → Prop} {s : Shared} {h₀ : Heap} {L D : Addr} {m : Str → Option Value} {news news' : List (Addr × Obj)} {Q : Value → Shared → Prop} {x : Str} {t : Tok} {l : List Nat} {i : Int} {k : Nat} {u : Tok} {value slice : Expr}
theorem r_from (hx : x = S l) (hi : i = (k : Int)) (hl : l.length ≤ 100000) (hF : Fr h₀ L s.heap m) (hN : News h₀ L s.heap news) (h : ∀ h' t' c, Fr h₀ L h' m → News h₀ L h' news → Q (.str (S (l.drop k)) t') { s with heap := h', toks := c })
    (hs : subscripted slice false (.str x t) (.ref s.heap.objs.size) = operate [.ref s.heap.objs.size, .str x t] (getItem (.str x t) (.ref s.heap.objs.size)) := by with_unfolding_all rfl)
    (ht : ∀ r, letTemporaryGo value (.str x t) r = pure () := by intro _; with_unfolding_all rfl) :
    wpAny (model prog w) A (subscriptTail value slice (.str x t) (.ref s.heap.objs.size)) Q E { s with heap := s.heap.push { cls := .type "slice", data := .fields #[.int i u, .none, .none] } } := by
  subst hx hi
  exact slice_strN_sn hF hN (fun h' t' c F' N' => by rw [sl_from]; exact h h' t' c F' N') hs ht (by rw [S_len, sizeLine_eq]; omega)
theorem r_to (hx : x = S l) (hi : i = (k : Int)) (hl : l.length ≤ 100000) (hF : Fr h₀ L s.heap m) (hN : News h₀ L s.heap news) (h : ∀ h' t' c, Fr h₀ L h' m → News h₀ L h' news → Q (.str (S (l.take k)) t') { s with heap := h', toks := c })
    (hs : subscripted slice false (.str x t) (.ref s.heap.objs.size) = operate [.ref s.heap.objs.size, .str x t] (getItem (.str x t) (.ref s.heap.objs.size)) := by with_unfolding_all rfl)
    (ht : ∀ r, letTemporaryGo value (.str x t) r = pure () := by intro _; with_unfolding_all rfl) :
    wpAny (model prog w) A (subscriptTail value slice (.str x t) (.ref s.heap.objs.size)) Q E { s with heap := s.heap.push { cls := .type "slice", data := .fields #[.none, .int i u, .none] } } := by
  subst hx hi
  exact slice_strN_ns hF hN (fun h' t' c F' N' => by rw [sl_to]; exact h h' t' c F' N') hs ht (by rw [S_len, sizeLine_eq]; omega)
theorem r_from_neg (hx : x = S l) (hi : i = -(k : Int)) (hk : 0 < k) (hl : l.length ≤ 100000) (hF : Fr h₀ L s.heap m) (hN : News h₀ L s.heap news) (h : ∀ h' t' c, Fr h₀ L h' m → News h₀ L h' news → Q (.str (S (l.drop (l.length - k))) t') { s with heap := h', toks := c })
    (hs : subscripted slice false (.str x t) (.ref s.heap.objs.size) = operate [.ref s.heap.objs.size, .str x t] (getItem (.str x t) (.ref s.heap.objs.size)) := by with_unfolding_all rfl)
    (ht : ∀ r, letTemporaryGo value (.str x t) r = pure () := by intro _; with_unfolding_all rfl) :
    wpAny (model prog w) A (subscriptTail value slice (.str x t) (.ref s.heap.objs.size)) Q E { s with heap := s.heap.push { cls := .type "slice", data := .fields #[.int i u, .none, .none] } } := by
  subst hx hi
  exact slice_strN_sn hF hN (fun h' t' c F' N' => by rw [sl_from_neg l hk]; exact h h' t' c F' N') hs ht (by rw [S_len, sizeLine_eq]; omega)
theorem r_to_neg (hx : x = S l) (hi : i = -(k : Int)) (hk : 0 < k) (hl : l.length ≤ 100000) (hF : Fr h₀ L s.heap m) (hN : News h₀ L s.heap news) (h : ∀ h' t' c, Fr h₀ L h' m → News h₀ L h' news → Q (.str (S (l.take (l.length - k))) t') { s with heap := h', toks := c })
    (hs : subscripted slice false (.str x t) (.ref s.heap.objs.size) = operate [.ref s.heap.objs.size, .str x t] (getItem (.str x t) (.ref s.heap.objs.size)) := by with_unfolding_all rfl)
    (ht : ∀ r, letTemporaryGo value (.str x t) r = pure () := by intro _; with_unfolding_all rfl) :
    wpAny (model prog w) A (subscriptTail value slice (.str x t) (.ref s.heap.objs.size)) Q E { s with heap := s.heap.push { cls := .type "slice", data := .fields #[.none, .int i u, .none] } } := by
  subst hx hi
  exact slice_strN_ns hF hN (fun h' t' c F' N' => by rw [sl_to_neg l hk]; exact h h' t' c F' N') hs ht (by rw [S_len, sizeLine_eq]; omega)
theorem r_len (hx : x = S l) (hl : l.length ≤ 100000) (h : ∀ t' c, Q (.int (l.length : Nat) t') { s with toks := c }) : wpAny (model prog w) A (call (.builtin "len") [.str x t]) Q E s := by
  subst hx
  refine len_str (by rw [S_len]; omega) ?_
  rw [S_len]
  exact h _ _
theorem r_rjust (hx : x = S l) (h1 : -1 ≤ i) (h2 : i ≤ 100000) (h : ∀ t' c, Q (.str (S (padL 32 i l)) t') { s with toks := c }) : wpAny (model prog w) A (call (.builtin "str.rjust") [.str x t, .int i u]) Q E s := by
  subst hx
  exact SC.rjust (padOk_of (by omega) (by omega)) fun t' c => by rw [rjust_S]; exact h t' c
theorem r_rjustF {f : Str} {v : Tok} {c : Nat} (hx : x = S l) (hf : f = S [c]) (h1 : -1 ≤ i) (h2 : i ≤ 100000) (h : ∀ t' k, Q (.str (S (padL c i l)) t') { s with toks := k }) : wpAny (model prog w) A (call (.builtin "str.rjust") [.str x t, .int i u, .str f v]) Q E s := by
  subst hx hf
  exact rjust_fill (padOk_of (by omega) (by omega)) (by rw [S_len]; rfl) fun t' k => by
    have e : (S [c]).cps.getD 0 0 = c := rfl
    rw [e, rjustF_S]; exact h t' k
theorem r_cat {y : Str} {v : Tok} {l2 : List Nat} (hx : x = S l) (hy : y = S l2) (hl : l.length + l2.length ≤ 100000) (h : ∀ t' c, Q (.str (S (l ++ l2)) t') { s with toks := c }) : wpAny (model prog w) A (binaryOp .Add (.str x t) (.str y v)) Q E s := by
  subst hx hy
  exact PyProof.Rows.add_str (fun t' c => by rw [S_app]; exact h t' c) (by rw [S_len, S_len, sizeLine_eq]; omega)
end

-- nolocal
section
variable {prog : Program} {w : World} {A : Around} {E : Value → Shared → Prop} {s : Shared} {a b : Nat} {t u : Tok} {Q : Value → Shared → Prop} {x y : Int}
theorem n_pow (hx : x = (a : Int)) (hy : y = (b : Int)) (hb : b ≤ 1000000) (ha : a < 2 ^ 64) (h : Q (.int ((a ^ b : Nat) : Int) s.toks) { s with toks := s.toks + 1 }) : wpAny (model prog w) A (binaryOp .Pow (.int x t) (.int y u)) Q E s :=
  pow_int_small (by omega) (by omega) (by omega) (by subst hx; subst hy; rw [toNat_c, ← Int.natCast_pow]; exact h)
theorem log2_pow (k : Nat) : (2 ^ k : Nat).log2 = k := by
  have h1 : (2 ^ k : Nat) ≠ 0 := Nat.ne_of_gt (Nat.two_pow_pos k)
  have h2 : (2 ^ k : Nat).log2 < k + 1 := (Nat.log2_lt h1).mpr (Nat.pow_lt_pow_right (by decide) (by omega))
  have h3 : ¬ (2 ^ k : Nat).log2 < k := fun h => absurd ((Nat.log2_lt h1).mp h) (Nat.lt_irrefl _)
  omega
theorem n_fdiv_pow (hx : x = (a : Int)) (hy : y = ((2 ^ b : Nat) : Int)) (hb : b ≤ 1000) (h : Q (.int ((a / 2 ^ b : Nat) : Int) s.toks) { s with toks := s.toks + 1 }) : wpAny (model prog w) A (binaryOp .FloorDiv (.int x t) (.int y u)) Q E s := by
  have hp := Nat.two_pow_pos b
  subst hx hy
  refine floordiv_int (by omega) ?_ (Or.inl (PyProof.noPylong_of_log2 ?_))
  · rw [Int.fdiv_eq_ediv_of_nonneg _ (Int.natCast_nonneg _), ← Int.natCast_ediv]; exact h
  · rw [Int.natAbs_natCast, log2_pow]; omega
theorem n_fdiv (hx : x = (a : Int)) (hy : y = (b : Int)) (hb : 0 < b) (hb2 : b < 1073741824) (h : Q (.int ((a / b : Nat) : Int) s.toks) { s with toks := s.toks + 1 }) : wpAny (model prog w) A (binaryOp .FloorDiv (.int x t) (.int y u)) Q E s := by
  subst hx hy
  refine floordiv_int (by omega) ?_ (Or.inl (PyProof.noPylong_small (by omega)))
  rw [Int.fdiv_eq_ediv_of_nonneg _ (Int.natCast_nonneg _), ← Int.natCast_ediv]; exact h
theorem n_mod (hx : x = (a : Int)) (hy : y = (b : Int)) (hb : 0 < b) (h : Q (.int ((a % b : Nat) : Int) s.toks) { s with toks := s.toks + 1 }) : wpAny (model prog w) A (binaryOp .Mod (.int x t) (.int y u)) Q E s :=
  mod_int' (by omega) (by subst hx; subst hy; rw [Int.fmod_eq_emod_of_nonneg _ (Int.natCast_nonneg _), ← Int.natCast_emod]; exact h)
theorem n_mul (hx : x = (a : Int)) (hy : y = (b : Int)) (ha : a < 1000000) (h : Q (.int ((a * b : Nat) : Int) s.toks) { s with toks := s.toks + 1 }) : wpAny (model prog w) A (binaryOp .Mult (.int x t) (.int y u)) Q E s :=
  PyProof.Rows.mul_int (by subst hx; subst hy; rw [← Int.natCast_mul]; exact h) (PySem.IntMulOk.of_left (PySem.intBits_le_64 (by omega) (by omega)))
theorem lit256 : (256 : Int) = ((256 : Nat) : Int) := rfl
end

-- nolocal
theorem runs_toks {M : Model} {Γ : PySem.Ctx} {p : Pos} {t : Sem Fin} {fs : List Frame} {s s' : Shared} {e : End} (h : Runs M Γ p t fs s e s') : s.toks ≤ s'.toks := by
  induction h with
  | fresh _ ih => exact Nat.le_trans (Nat.le_succ _) ih
  | call _ _ ih1 ih2 => exact Nat.le_trans ih1 ih2
  | segRet _ _ ih1 ih2 => exact Nat.le_trans ih1 ih2
  | segGen _ _ ih1 ih2 => exact Nat.le_trans ih1 ih2
  | segSuspGen _ _ _ _ ih1 ih2 => exact Nat.le_trans ih1 ih2
  | resumeFresh _ _ _ _ ih1 ih2 => exact Nat.le_trans ih1 ih2
  | resumeSuspended _ _ _ _ ih1 ih2 => exact Nat.le_trans ih1 ih2
  | _ => first | exact Nat.le_refl _ | assumption
theorem wakes_toks {M : Model} {Γ : PySem.Ctx} {p : Pos} {g : Nat} {r : Resume} {s s' : Shared} {res : GenResult} (h : Wakes M Γ p g r s res s') : s.toks ≤ s'.toks := by
  unfold Wakes at h
  split at h
  · exact h.elim
  · split at h
    · obtain ⟨e₁, s₁, h1, _, _, rfl⟩ := h
      have h2 := runs_toks h1
      exact h2
    · rw [h.2]; exact Nat.le_refl _
    · rw [h.2]; exact Nat.le_refl _
  · obtain ⟨e₁, s₁, h1, _, _, rfl⟩ := h
    have h2 := runs_toks h1
    exact h2
  · rw [h.2]; exact Nat.le_refl _
  · rw [h.2]; exact Nat.le_refl _
theorem wp_toks {α : Type} {M : Model} {Γ : PySem.Ctx} {n : Nat} {Q : α → Pos → Shared → Prop} {E : Value → Pos → Shared → Prop} (t : Sem α) : ∀ {p : Pos} {s : Shared}, n ≤ s.toks → Sem.wp M Γ t Q E p s →
    Sem.wp M Γ t (fun a p s' => n ≤ s'.toks ∧ Q a p s') (fun e p s' => n ≤ s'.toks ∧ E e p s') p s := by
  induction t with
  | pure a => intro p s hn h; rw [Sem.wp] at h ⊢; exact ⟨hn, h⟩
  | raise e => intro p s hn h; rw [Sem.wp] at h ⊢; exact ⟨hn, h⟩
  | load a part k ih => intro p s hn h; rw [Sem.wp] at h ⊢; obtain ⟨o, h1, h2⟩ := h; exact ⟨o, h1, ih o hn h2⟩
  | update a part f k ih => intro p s hn h; rw [Sem.wp] at h ⊢; exact ⟨h.1, ih () hn h.2⟩
  | fresh k ih => intro p s hn h; rw [Sem.wp] at h ⊢; exact ih _ (Nat.le_trans hn (Nat.le_succ _)) h
  | choose src m k ih => intro p s hn h; rw [Sem.wp] at h ⊢; exact ⟨h.1, ih _ hn h.2⟩
  | call c hd g l k ih =>
    intro p s hn h
    rw [Sem.wp] at h ⊢
    obtain ⟨r, s', h1, h2⟩ := h
    exact ⟨r, s', h1, ih r (Nat.le_trans hn (runs_toks h1)) h2⟩
  | genState g k ih => intro p s hn h; rw [Sem.wp] at h ⊢; obtain ⟨st, h1, h2⟩ := h; exact ⟨st, h1, ih _ hn h2⟩
  | resume g r l k ih =>
    intro p s hn h
    rw [Sem.wp] at h ⊢
    obtain ⟨res, s', h1, h2⟩ := h
    exact ⟨res, s', h1, ih res (Nat.le_trans hn (wakes_toks h1)) h2⟩
  | _ => intro p s hn h; rw [Sem.wp] at h ⊢; first | exact h | exact h.elim | (rename_i ih; exact ih _ hn h)
theorem wpAny_toks {α : Type} {M : Model} {A : Around} {t : Sem α} {Q : α → Shared → Prop} {E : Value → Shared → Prop} {s : Shared} (h : wpAny M A t Q E s) :
    wpAny M A t (fun a s' => s.toks ≤ s'.toks ∧ Q a s') E s := fun Γ p hΓ =>
  Sem.wp_mono M Γ t (fun _ _ _ (x : _ ∧ _) => x) (fun e _ s' (x : s.toks ≤ s'.toks ∧ E e s') => x.2) p s (wp_toks t (Nat.le_refl _) (h Γ p hΓ))
/-- a rule that says nothing of the counter says that it does not fall -/
theorem toks_up {M : Model} {A : Around} {t : Sem Value} {Q : Value → Shared → Prop} {E : Value → Shared → Prop} {s : Shared} {P : Value → Heap → Prop}
    (h : wpAny M A t (fun v s' => ∃ h' c, s' = { s with heap := h', toks := c } ∧ P v h') E s) (k : ∀ v h' c, s.toks ≤ c → P v h' → Q v { s with heap := h', toks := c }) : wpAny M A t Q E s :=
  wpAny_mono (wpAny_toks h) (fun v s' hv => by
    obtain ⟨h1, h', c, rfl, h2⟩ := hv
    exact k v h' c h1 h2) fun _ _ x => x

-- nolocal
def rep (c d : Nat) (l : List Nat) : List Nat := l.map fun x => if x = c then d else x
theorem rep_free {c : Nat} (d : Nat) : ∀ l : List Nat, c ∉ l → rep c d l = l
  | [], _ => rfl
  | k :: r, h => by
    have h1 : ¬ k = c := fun e => h (e ▸ List.mem_cons_self ..)
    have h2 : c ∉ r := fun m => h (List.mem_cons_of_mem _ m)
    show (if k = c then d else k) :: rep c d r = _
    rw [if_neg h1, rep_free d r h2]
theorem rep_app (c d : Nat) (a b : List Nat) : rep c d (a ++ b) = rep c d a ++ rep c d b := List.map_append
theorem rep_join (c d : Nat) : ∀ parts : List Str, (∀ p ∈ parts, c ∉ p.cps.toList) → rep c d (Str.join ⟨#[c]⟩ parts).cps.toList = (Str.join ⟨#[d]⟩ parts).cps.toList
  | [], _ => rfl
  | [p], h => rep_free d _ (h p (List.mem_singleton.mpr rfl))
  | p :: q :: r, h => by
    have ih := rep_join c d (q :: r) fun a ha => h a (List.mem_cons_of_mem _ ha)
    show rep c d (p ++ ⟨#[c]⟩ ++ Str.join ⟨#[c]⟩ (q :: r)).cps.toList = (p ++ ⟨#[d]⟩ ++ Str.join ⟨#[d]⟩ (q :: r)).cps.toList
    simp only [Str.cps_append, Array.toList_append]
    rw [rep_app, rep_app, ih, rep_free d _ (h p (List.mem_cons_self ..))]
    show p.cps.toList ++ rep c d [c] ++ _ = _
    rw [show rep c d [c] = [d] by simp [rep]]
theorem replace_S (l : List Nat) (c d : Nat) : Txt.replace (S l) (S [c]) (S [d]) = S (rep c d l) := by
  have h : (Txt.replace (S l) ⟨#[c]⟩ ⟨#[d]⟩).cps.toList = rep c d (S l).cps.toList := by
    rw [StrLaws.replace_one, ← rep_join c d _ (StrLaws.split_free (S l) c), StrLaws.join_split]
  rw [S_toList (Txt.replace (S l) (S [c]) (S [d]))]
  exact congrArg S h

theorem Ct0.useP {w : World} {f : Addr} {D : Nat} {news : List (Addr × Obj)} {vs : List Value} {Post : Value → Prop} (C : Ct0 w f D news vs Post)
    {p : Program} {loose : List Str} {mean : ExcName → Option Value} {mg mb : Str → Option Value} {dp un : Nat} {gd : Option (List Code)} {cn : Str} {cs : Scope} {a : Addr} {ccd : Value} {cl : List (Str × Addr)} {outer : List Env} {A₀ : Around} {base h₀ : Heap} {L : Addr} {m : Str → Option Value} {s : Shared} {Q E : Value → Shared → Prop}
    (B : Below A₀ base outer h₀) (F : Fr h₀ L s.heap m) (X : (hd.heap_1 w.params).In h₀) (N : News h₀ L s.heap news) (T : Top p loose mean mg mb h₀) (hk : cs.kind = .function) (hd : dp + D < recursionLimit) (hu : un + 8 * D < cLine)
    (ret : ∀ r h' tk', s.toks ≤ tk' → Fr h₀ L h' m → News h₀ L h' news → Post r → Q r { s with heap := h', toks := tk' }) :
    wpAny (model PySem.Challenge.rw_on0103_01.row.prog w) (ktrTop dp un gd cn cs L a ccd cl outer) (call (.ref f) vs) Q E s :=
  toks_up (P := fun r h' => Fr h₀ L h' m ∧ News h₀ L h' news ∧ Post r)
    (C p loose mean mg mb dp un gd cn cs a ccd cl outer A₀ base h₀ L m s _ E B F X N T hk hd hu fun r h' tk' F' N' hp => ⟨h', tk', rfl, F', N', hp⟩)
    fun r h' c hc hp => ret r h' c hc hp.1 hp.2.1 hp.2.2

section
variable {prog : Program} {w : World} {A : Around} {E : Value → Shared → Prop} {s : Shared} {h₀ : Heap} {L D : Addr} {m : Str → Option Value} {news news' : List (Addr × Obj)} {Q : Value → Shared → Prop} {x y : Str} {t v : Tok} {l l2 : List Nat} {i : Int} {k c : Nat} {u : Tok} {value slice : Expr}
theorem r_replace {z : Str} {d : Nat} {tz : Tok} (hx : x = S l) (hy : y = S [c]) (hz : z = S [d]) (hcd : c ≠ d) (h1 : u ≠ 0) (h2 : tz ≠ 0) (h3 : u ≠ tz) (hl : l.length ≤ 100000)
    (h : ∀ t' n, s.toks ≤ n → Q (.str (S (rep c d l)) t') { s with toks := n }) : wpAny (model prog w) A (call (.builtin "str.replace") [.str x t, .str y u, .str z tz]) Q E s := by
  subst hx hy hz
  have ht : wpAny (model prog w) A (call (.builtin "str.replace") [.str (S l) t, .str (S [c]) u, .str (S [d]) tz]) (fun v s' => ∃ t' n, v = .str (S (rep c d l)) t' ∧ s' = { s with toks := n }) E s := by
    refine SC.replaceW h1 h2 h3 ?_ (by rw [S_len]; omega) (by rw [S_len]; show 1 ≤ 14; decide) fun t' n => ⟨t', n, by rw [replace_S], rfl⟩
    rw [beq_eq_false_iff_ne]
    intro q
    have := congrArg (fun x : Str => x.cps.toList) q
    simp at this
    exact hcd this
  refine wpAny_mono (wpAny_toks ht) (fun v s' hv => ?_) fun _ _ e => e
  obtain ⟨h4, t', n, rfl, rfl⟩ := hv
  exact h t' n h4
theorem r_from_negP (hx : x = S l) (hi : i = -(k : Int)) (hk : 0 < k) (hl : l.length ≤ 100000) (hF : Fr h₀ L s.heap m) (hN : News h₀ L s.heap news) (h : ∀ h' t' c, s.toks ≤ c → Fr h₀ L h' m → News h₀ L h' news → Q (.str (S (l.drop (l.length - k))) t') { s with heap := h', toks := c })
    (hs : subscripted slice false (.str x t) (.ref s.heap.objs.size) = operate [.ref s.heap.objs.size, .str x t] (getItem (.str x t) (.ref s.heap.objs.size)) := by with_unfolding_all rfl)
    (ht : ∀ r, letTemporaryGo value (.str x t) r = pure () := by intro _; with_unfolding_all rfl) :
    wpAny (model prog w) A (subscriptTail value slice (.str x t) (.ref s.heap.objs.size)) Q E { s with heap := s.heap.push { cls := .type "slice", data := .fields #[.int i u, .none, .none] } } :=
  toks_up (s := { s with heap := s.heap.push { cls := .type "slice", data := .fields #[.int i u, .none, .none] } }) (P := fun r h' => (∃ t', r = .str (S (l.drop (l.length - k))) t') ∧ Fr h₀ L h' m ∧ News h₀ L h' news)
    (r_from_neg hx hi hk hl hF hN (fun h' t' c F' N' => ⟨h', c, rfl, ⟨t', rfl⟩, F', N'⟩) hs ht)
    fun r h' c hc hp => by
      obtain ⟨⟨t', rfl⟩, F', N'⟩ := hp
      exact h h' t' c hc F' N'
theorem r_in (hx : x = S l) (hy : y = S [c]) (h : Q (.bool (decide (c ∈ l))) s) : wpAny (model prog w) A (compareOp .In (.str y u) (.str x t)) Q E s := by
  subst hx hy
  refine P.in_str ?_
  rw [StrLaws.found_one (S l) c]
  simpa using h
theorem r_notin (hx : x = S l) (hy : y = S [c]) (h : Q (.bool (!decide (c ∈ l))) s) : wpAny (model prog w) A (compareOp .NotIn (.str y u) (.str x t)) Q E s := by
  subst hx hy
  refine P.notIn_str ?_
  rw [StrLaws.found_one (S l) c]
  simpa using h
theorem mul_S (c : Nat) (n : Int) : Txt.mul (S [c]) n = S (List.replicate n.toNat c) := by
  rw [S_toList (Txt.mul (S [c]) n), mul_one_list]
theorem mulOk1 (c : Nat) {n : Int} (h1 : -100000 ≤ n) (h2 : n ≤ 100000) : MulOk (S [c]) n := by
  refine ⟨?_, fun h3 _ => ?_, fun h3 _ => ?_⟩
  · have a1 : ¬ n < -(2 ^ 63 : Int) := by omega
    have a2 : ¬ n ≥ 2 ^ 63 := by omega
    rw [decide_eq_false a1, decide_eq_false a2]; rfl
  · rw [S_len]
    have h4 : 1 ≤ (2 ^ 63 - 1 : Int) / n := by
      rw [Int.le_ediv_iff_mul_le (by omega)]
      omega
    show ¬ (((1 : Nat) : Int) > _)
    omega
  · rw [S_len]
    unfold Builtin.Str.tooLong sizeLine
    have e : (2 : Nat) ^ 24 = 16777216 := by decide
    refine decide_eq_false ?_
    show ¬ 1 * n.toNat > _
    omega
theorem r_mulc (hx : x = S [c]) (h1 : -100000 ≤ i) (h2 : i ≤ 100000) (h : ∀ t' n, Q (.str (S (List.replicate i.toNat c)) t') { s with toks := n }) : wpAny (model prog w) A (binaryOp .Mult (.str x t) (.int i u)) Q E s := by
  subst hx
  exact SB.mul (mulOk1 c h1 h2) fun t' n => by rw [mul_S]; exact h t' n
theorem r_index01 (hx : x = S [48, 49]) (hy : y = S [c]) (hc : c = 48 ∨ c = 49) (h : Q (.int ((c - 48 : Nat) : Int) s.toks) { s with toks := s.toks + 1 }) : wpAny (model prog w) A (call (.builtin "str.index") [.str x t, .str y u]) Q E s := by
  subst hx hy
  rcases hc with rfl | rfl
  · exact SC.index (i := 0) (rest := []) (by decide +kernel) h
  · exact SC.index (i := 1) (rest := []) (by decide +kernel) h
end
theorem r_replaceN {z : Str} {d un zn : Nat} (hx : x = S l) (hy : y = S [c]) (hz : z = S [d]) (hcd : c ≠ d) (h1 : 1 ≤ un) (h3 : un < zn) (hl : l.length ≤ 100000)
    (h : ∀ t' n, s.toks ≤ n → Q (.str (S (rep c d l)) t') { s with toks := n }) : wpAny (model prog w) A (call (.builtin "str.replace") [.str x t, .str y un, .str z zn]) Q E s :=
  r_replace hx hy hz hcd (Nat.ne_of_gt h1) (Nat.ne_of_gt (Nat.lt_of_le_of_lt (Nat.zero_le _) h3)) (Nat.ne_of_lt h3) hl h
theorem S_ne1 {k d : Nat} (h : k ≠ d) : (S [k] == S [d]) = false := by
  have e : ¬ S [k] = S [d] := fun e => h (by have := congrArg (fun x : Str => x.cps.toList) e; simpa using this)
  simpa using e
theorem eq_no {prog : Program} {w : World} {A : Around} {E : Value → Shared → Prop} {s : Shared} {Q : Value → Shared → Prop} {x y : Str} {t u : Tok} (e : (x == y) = false) (h : Q (.bool false) s) : wpAny (model prog w) A (compareOp .Eq (.str x t) (.str y u)) Q E s :=
  PyProof.Rows.eq_str (by rw [e]; exact h)
/-- a letter that is none of s, c, t, x: the number's letters -/
structure NumK (k : Nat) : Prop where
  it : k = 98 ∨ k = 111 ∨ k = 100 ∨ k = 104
theorem NumK.no {k d : Nat} (K : NumK k) (hd : (d != 98 && d != 111 && d != 100 && d != 104) = true) : (S [k] == S [d]) = false := by
  refine S_ne1 fun e => ?_
  subst e
  rcases K.it with rfl | rfl | rfl | rfl <;> simp at hd
theorem NumK.no_s {k : Nat} (K : NumK k) : (S [k] == Str.ofString "s") = false := by
  rw [show Str.ofString "s" = S [115] by decide +kernel]
  exact K.no (by decide)
theorem NumK.no_c {k : Nat} (K : NumK k) : (S [k] == Str.ofString "c") = false := by
  rw [show Str.ofString "c" = S [99] by decide +kernel]
  exact K.no (by decide)
theorem NumK.no_t {k : Nat} (K : NumK k) : (S [k] == Str.ofString "t") = false := by
  rw [show Str.ofString "t" = S [116] by decide +kernel]
  exact K.no (by decide)
theorem NumK.no_x {k : Nat} (K : NumK k) : (S [k] == Str.ofString "x") = false := by
  rw [show Str.ofString "x" = S [120] by decide +kernel]
  exact K.no (by decide)
theorem no_d {k : Nat} (h : k ≠ 100) : (S [k] == Str.ofString "d") = false := by
  rw [show Str.ofString "d" = S [100] by decide +kernel]
  exact S_ne1 h

set_option pp.deepTerms false
set_option pp.deepTerms.threshold 8
local macro_rules | `(tactic| walk_at "call ref") => `(tactic| k_extra "mine call")
local macro_rules | `(tactic| walk_at "pyIter ref") => `(tactic| k_extra "pyIter ref")
local macro_rules | `(tactic| walk_at "pyIter str") => `(tactic| k_extra "pyIter str")
local macro_rules | `(tactic| walk_at "exec While Compare cons nil") => `(tactic| k_extra "exec While Compare cons nil")
local macro_rules | `(tactic| walk_at "binaryOp BitAnd int int") => `(tactic| (refine' n_and ?nx ?ny ?_; (case nx => (first | (with_reducible rfl) | exact lit0 | exact lit1 | exact lit2 | exact lit8 | exact lit255 | (with_reducible exact sub1_c (by omega)))); (case ny => (first | (with_reducible rfl) | exact lit0 | exact lit1 | exact lit2 | exact lit8 | exact lit255 | (with_reducible exact sub1_c (by omega))))))
local macro_rules | `(tactic| walk_at "binaryOp BitOr int int") => `(tactic| (refine' n_or ?nx ?ny ?_; (case nx => (first | (with_reducible rfl) | exact lit0 | exact lit1 | exact lit2 | exact lit8 | exact lit255 | (with_reducible exact sub1_c (by omega)))); (case ny => (first | (with_reducible rfl) | exact lit0 | exact lit1 | exact lit2 | exact lit8 | exact lit255 | (with_reducible exact sub1_c (by omega))))))
local macro_rules | `(tactic| walk_at "binaryOp BitXor int int") => `(tactic| (refine' n_xor ?nx ?ny ?_; (case nx => (first | (with_reducible rfl) | exact lit0 | exact lit1 | exact lit2 | exact lit8 | exact lit255 | (with_reducible exact sub1_c (by omega)))); (case ny => (first | (with_reducible rfl) | exact lit0 | exact lit1 | exact lit2 | exact lit8 | exact lit255 | (with_reducible exact sub1_c (by omega))))))
local macro_rules | `(tactic| walk_at "binaryOp RShift int int") => `(tactic| (refine' n_shr ?nx ?ny ?_; (case nx => (first | (with_reducible rfl) | exact lit0 | exact lit1 | exact lit2 | exact lit8 | exact lit255 | (with_reducible exact sub1_c (by omega)))); (case ny => (first | (with_reducible rfl) | exact lit0 | exact lit1 | exact lit2 | exact lit8 | exact lit255 | (with_reducible exact sub1_c (by omega))))))
local macro_rules | `(tactic| walk_at "binaryOp Add int int") => `(tactic| (refine' n_add ?nx ?ny ?_; (case nx => (first | (with_reducible rfl) | exact lit0 | exact lit1 | exact lit2 | exact lit8 | exact lit255 | (with_reducible exact sub1_c (by omega)))); (case ny => (first | (with_reducible rfl) | exact lit0 | exact lit1 | exact lit2 | exact lit8 | exact lit255 | (with_reducible exact sub1_c (by omega))))))
local macro_rules | `(tactic| walk_at "binaryOp LShift int int") => `(tactic| (refine' n_shl ?nx ?ny ?nb ?na ?_; (case nx => (first | (with_reducible rfl) | exact lit0 | exact lit1 | exact lit2 | exact lit8 | exact lit255 | (with_reducible exact sub1_c (by omega)))); (case ny => (first | (with_reducible rfl) | exact lit0 | exact lit1 | exact lit2 | exact lit8 | exact lit255 | (with_reducible exact sub1_c (by omega)))); (case nb => (first | omega | decide)); (case na => (first | omega | decide | k_extra "small"))))
local macro_rules | `(tactic| walk_at "binaryOp Sub int int") => `(tactic| (refine' n_sub ?nx ?ny ?nb ?_; (case nx => (first | (with_reducible rfl) | exact lit0 | exact lit1 | exact lit2 | exact lit8 | exact lit255 | (with_reducible exact sub1_c (by omega)))); (case ny => (first | (with_reducible rfl) | exact lit0 | exact lit1 | exact lit2 | exact lit8 | exact lit255 | (with_reducible exact sub1_c (by omega)))); (case nb => omega)))
local macro_rules | `(tactic| walk_at "inplaceOp RShift int int") => `(tactic| (refine' n_ishr ?nx ?ny ?_; (case nx => (first | (with_reducible rfl) | exact lit0 | exact lit1 | exact lit2 | exact lit8 | exact lit255 | (with_reducible exact sub1_c (by omega)))); (case ny => (first | (with_reducible rfl) | exact lit0 | exact lit1 | exact lit2 | exact lit8 | exact lit255 | (with_reducible exact sub1_c (by omega))))))
local macro_rules | `(tactic| walk_at "inplaceOp Add int int") => `(tactic| (refine' n_iadd ?nx ?ny ?_; (case nx => (first | (with_reducible rfl) | exact lit0 | exact lit1 | exact lit2 | exact lit8 | exact lit255 | (with_reducible exact sub1_c (by omega)))); (case ny => (first | (with_reducible rfl) | exact lit0 | exact lit1 | exact lit2 | exact lit8 | exact lit255 | (with_reducible exact sub1_c (by omega))))))
local macro_rules | `(tactic| walk_at "call builtin:max") => `(tactic| (k_dflt (refine' n_max ?nh ?nF ?nN ?nx ?ny ?_); (case nh => k_dflt (exact rfl)); (case nF => k_asm); (case nN => k_asm); (case nx => (first | (with_reducible rfl) | exact lit0 | exact lit1 | exact lit2 | exact lit8 | exact lit255 | (with_reducible exact sub1_c (by omega)))); (case ny => (first | (with_reducible rfl) | exact lit0 | exact lit1 | exact lit2 | exact lit8 | exact lit255 | (with_reducible exact sub1_c (by omega)))); (intro h9 tk9 t9 F9 N9); (try k_sweep)))
local macro_rules | `(tactic| walk_at "call builtin:min") => `(tactic| (k_dflt (refine' n_min ?nh ?nF ?nN ?nx ?ny ?_); (case nh => k_dflt (exact rfl)); (case nF => k_asm); (case nN => k_asm); (case nx => (first | (with_reducible rfl) | exact lit0 | exact lit1 | exact lit2 | exact lit8 | exact lit255 | (with_reducible exact sub1_c (by omega)))); (case ny => (first | (with_reducible rfl) | exact lit0 | exact lit1 | exact lit2 | exact lit8 | exact lit255 | (with_reducible exact sub1_c (by omega)))); (intro h9 tk9 t9 F9 N9); (try k_sweep)))
local macro_rules | `(tactic| kst_facts) => `(tactic| k_extra "facts")
local macro_rules | `(tactic| walk_at "subscriptTail Name Constant ref int") => `(tactic| k_dflt (refine' item_tupleT ?nt ?na ?nb ?nc ?nd ?_; (case nt => (refine' News.isTup ?nN ?nm; (case nN => k_asm); (case nm => k_extra "mem"))); (case na => decide); (case nb => decide); (case nc => rfl); (case nd => rfl); k_whole))
local macro_rules | `(tactic| walk_at "call builtin:str.rjust") => `(tactic| k_extra "call builtin:str.rjust")
local macro_rules | `(tactic| walk_at "call builtin:len") => `(tactic| k_extra "call builtin:len")
local macro_rules | `(tactic| walk_at "call builtin:str.join") => `(tactic| k_extra "call builtin:str.join")
local macro_rules | `(tactic| walk_at "call builtin:list.reverse") => `(tactic| k_extra "call builtin:list.reverse")
local macro_rules | `(tactic| walk_at "call builtin:chr") => `(tactic| k_extra "call builtin:chr")
local macro_rules | `(tactic| walk_at "subscriptTail Name Name str int") => `(tactic| k_extra "subscriptTail Name Name str int")
local macro_rules | `(tactic| walk_at "subscriptTail Name Slice str ref") => `(tactic| k_extra "subscriptTail Name Slice str ref")
local macro_rules | `(tactic| walk_at "call builtin:str.index") => `(tactic| k_extra "call builtin:str.index")
local macro_rules | `(tactic| walk_at "call builtin:str.replace") => `(tactic| k_extra "call builtin:str.replace")
local macro_rules | `(tactic| walk_at "compareOp In") => `(tactic| k_extra "compareOp In")
local macro_rules | `(tactic| walk_at "compareOp NotIn") => `(tactic| k_extra "compareOp NotIn")
local macro_rules | `(tactic| walk_at "binaryOp Mult") => `(tactic| k_extra "binaryOp Mult")
local macro_rules | `(tactic| walk_at "binaryOp Add") => `(tactic| k_extra "binaryOp Add")
theorem bit_and (a i : Nat) : a / 2 ^ i &&& 1 = bit a i := by unfold bit; have h := Nat.and_two_pow_sub_one_eq_mod (a / 2 ^ i) 1; simpa using h

theorem vecO_eq {w a b a' b' : Nat} {t1 t2 t3 : Tok} {c : Nat} (ha : a = a') (hb : b = b') : vecO w a b t1 t2 t3 c = vecO w a' b' t1 t2 t3 c := by subst ha; subst hb; rfl
theorem slice_plain {a lo k n : Nat} (h : lo + k ≤ n) : (a / 2 ^ max lo 0 &&& 2 ^ (min (lo + k) n - max lo 0) - 1) * 2 ^ (max lo 0 - lo) ||| (2 ^ k - 1 ^^^ (2 ^ (min (lo + k) n - max lo 0) - 1) * 2 ^ (max lo 0 - lo)) = a / 2 ^ lo % 2 ^ k := by
  rw [show max lo 0 = lo by omega, show min (lo + k) n - lo = k by omega, Nat.sub_self, Nat.pow_zero, Nat.mul_one, Nat.mul_one, Nat.xor_self, Nat.or_zero, Nat.and_two_pow_sub_one_eq_mod]

set_option maxHeartbeats 1000000 in
theorem mask_c {w : World} {news : List (Addr × Obj)} {n : Nat} {t : Tok} (hn : n ≤ 100) :
    Ct0 w 21 1 news [.int (n : Int) t] (fun r => ∃ u, r = .int ((2 ^ n - 1 : Nat) : Int) u) := by
  w_top off
  k_with_none
  k_with "mem" => first | (with_reducible assumption) | exact List.Mem.head _ | (refine List.mem_cons_of_mem _ ?_; k_extra "mem") | (refine List.mem_append.mpr (.inl ?_); k_extra "mem") | (refine List.mem_append.mpr (.inr ?_); k_extra "mem")
  unfold Ct0
  k_fill
  intro fp9 loose9 mean9 mg9 mb9 dp un gd9 cn9 cs9 fa9 ccd9 cl9 outer9 A9 base9 hz9 L9 m9 s9 Q9 E9 B9 F9 X9 N9 T9 hk9 hd9 hu9 hret
  refine wpAny_call ?_
  k_dflt cell_enter
  k_steps
  refine end0 hret (by k_asm) (by k_asm) (fun p hp => hp) ⟨_, congrArg (Value.int · _) ?_⟩
  have := Nat.two_pow_pos n
  omega

set_option maxHeartbeats 1000000 in
theorem is_known_c {w : World} {news : List (Addr × Obj)} {D : Addr} {n a b : Nat} {t1 t2 t3 : Tok} {c : Nat} (hD : (D, vecO n a b t1 t2 t3 c) ∈ news) :
    Ct0 w 35 1 news [.ref D] (fun r => r = .bool (decide (b = 0))) := by
  w_top off
  k_with_none
  k_with "mem" => first | (with_reducible assumption) | exact List.Mem.head _ | (refine List.mem_cons_of_mem _ ?_; k_extra "mem") | (refine List.mem_append.mpr (.inl ?_); k_extra "mem") | (refine List.mem_append.mpr (.inr ?_); k_extra "mem")
  unfold Ct0
  k_fill
  intro fp9 loose9 mean9 mg9 mb9 dp un gd9 cn9 cs9 fa9 ccd9 cl9 outer9 A9 base9 hz9 L9 m9 s9 Q9 E9 B9 F9 X9 N9 T9 hk9 hd9 hu9 hret
  refine wpAny_call ?_
  k_dflt cell_enter
  k_steps
  refine end0 hret (by k_asm) (by k_asm) (fun p hp => hp) (congrArg Value.bool ?_)
  rw [Bool.eq_iff_iff]
  simp

set_option maxHeartbeats 1000000 in
theorem to_int_c {w : World} {news : List (Addr × Obj)} {D : Addr} {n a b : Nat} {t1 t2 t3 : Tok} {c : Nat} {sg : Bool} (hD : (D, vecO n a b t1 t2 t3 c) ∈ news) (hn : 0 < n) (hn' : n ≤ 100) :
    Ct0 w 42 1 news [.ref D, .bool sg] (fun r => (b ≠ 0 ∧ r = .none) ∨ (b = 0 ∧ ∃ u, r = .int (if sg = true ∧ a / 2 ^ (n - 1) = 1 then (a : Int) - (2 ^ n : Nat) else a) u)) := by
  w_top off
  k_with_none
  k_with "mem" => first | (with_reducible assumption) | exact List.Mem.head _ | (refine List.mem_cons_of_mem _ ?_; k_extra "mem") | (refine List.mem_append.mpr (.inl ?_); k_extra "mem") | (refine List.mem_append.mpr (.inr ?_); k_extra "mem")
  unfold Ct0
  k_fill
  intro fp9 loose9 mean9 mg9 mb9 dp un gd9 cn9 cs9 fa9 ccd9 cl9 outer9 A9 base9 hz9 L9 m9 s9 Q9 E9 B9 F9 X9 N9 T9 hk9 hd9 hu9 hret
  refine wpAny_call ?_
  k_dflt cell_enter
  k_steps
  all_goals refine end0 hret (by k_asm) (by k_asm) (fun p hp => hp) ?_
  · exact .inl ⟨by omega, rfl⟩
  · exact .inr ⟨by omega, _, congrArg (Value.int · _) (by rw [if_pos ⟨by assumption, by omega⟩]; omega)⟩
  · exact .inr ⟨by omega, _, congrArg (Value.int · _) (by rw [if_neg (fun h => by omega)])⟩
  · exact .inr ⟨by omega, _, congrArg (Value.int · _) (by rw [if_neg (fun h => by simp_all)])⟩

set_option maxHeartbeats 1000000 in
theorem code_c {w : World} {news : List (Addr × Obj)} {D : Addr} {n a b : Nat} {t1 t2 t3 : Tok} {c : Nat} {x : Int} {ti : Tok} (hD : (D, vecO n a b t1 t2 t3 c) ∈ news) (hi : 0 ≤ x) :
    Ct0 w 49 1 news [.ref D, .int x ti] (fun r => ∃ u, r = .int ((cd a b x.toNat : Nat) : Int) u) := by
  obtain ⟨i, rfl⟩ := Int.eq_ofNat_of_zero_le hi
  w_top off
  k_with_none
  k_with "mem" => first | (with_reducible assumption) | exact List.Mem.head _ | (refine List.mem_cons_of_mem _ ?_; k_extra "mem") | (refine List.mem_append.mpr (.inl ?_); k_extra "mem") | (refine List.mem_append.mpr (.inr ?_); k_extra "mem")
  unfold Ct0
  k_fill
  intro fp9 loose9 mean9 mg9 mb9 dp un gd9 cn9 cs9 fa9 ccd9 cl9 outer9 A9 base9 hz9 L9 m9 s9 Q9 E9 B9 F9 X9 N9 T9 hk9 hd9 hu9 hret
  refine wpAny_call ?_
  k_dflt cell_enter
  k_steps
  refine end0 hret (by k_asm) (by k_asm) (fun p hp => hp) ⟨_, congrArg (Value.int · _) ?_⟩
  rw [bit_and, bit_and, toNat_c]
  unfold cd
  omega

set_option maxHeartbeats 1000000 in
theorem slice_vec_c {w : World} {news : List (Addr × Obj)} {D : Addr} {n a b : Nat} {t1 t2 t3 : Tok} {c : Nat} {lo k : Nat} {t4 t5 : Tok} (hD : (D, vecO n a b t1 t2 t3 c) ∈ news) (hn : n ≤ 40) (ha : Small a) (hb : Small b) (hk : 0 < k) (hlo : lo + k ≤ n) (hk4 : k ≤ 4) :
    CtT w 56 2 news [.ref D, .int (lo : Int) t4, .int (k : Int) t5] (fun o => ∃ t1 t2 t3 c, o = vecO k (a / 2 ^ lo % 2 ^ k) (b / 2 ^ lo % 2 ^ k) t1 t2 t3 c) := by
  w_top off
  k_with_none
  k_with "mem" => first | (with_reducible assumption) | exact List.Mem.head _ | (refine List.mem_cons_of_mem _ ?_; k_extra "mem") | (refine List.mem_append.mpr (.inl ?_); k_extra "mem") | (refine List.mem_append.mpr (.inr ?_); k_extra "mem")
  unfold CtT
  k_fill
  intro fp9 loose9 mean9 mg9 mb9 dp un gd9 cn9 cs9 fa9 ccd9 cl9 outer9 A9 base9 hz9 L9 m9 s9 Q9 E9 B9 F9 X9 N9 T9 hk9 hd9 hu9 hret
  refine wpAny_call ?_
  k_dflt cell_enter
  k_with "mine call" => (k_dflt (refine' Ct0.use (mask_c ?h) ?u1 ?u2 ?u3 ?u4 ?u5 ?uK ?ud ?uu ?_; (case u1 => k_asm); (case u2 => k_asm); (case u3 => k_asm); (case u4 => k_asm); (case u5 => k_asm); (case uK => first | exact rfl | assumption); (case ud => ktr_room); (case uu => ktr_units); (case h => omega); intro r9 h9 tk9 F9 N9 ho9; (first | (obtain ⟨t91, t92, t93, c9, e9⟩ := ho9; subst e9) | (obtain ⟨t9, e9⟩ := ho9; subst e9) | subst ho9 | skip); (try dsimp only); (try k_sweep); (try k_fold)))
  k_with "small" => (refine Nat.lt_of_le_of_lt (Nat.le_trans Nat.and_le_left (Nat.div_le_self _ _)) (Nat.lt_trans (Small.lt (by assumption)) (by decide)))
  k_with "small" => (refine Nat.lt_of_le_of_lt (Nat.le_trans (Nat.sub_le _ _) (Nat.pow_le_pow_right (by decide) (show _ ≤ 4 by omega))) (by decide))
  k_steps
  exact hret _ _ _ _ (by k_asm) (by k_asm) (by assumption) ⟨_, _, _, _, vecO_eq (slice_plain hlo) (slice_plain hlo)⟩

def sgn (c : Nat) : Nat := if c = 0 then 48 else if c = 1 then 49 else if c = 2 then 122 else 120
noncomputable def signs (a b : Nat) : Nat → List Nat
  | 0 => []
  | w + 1 => sgn (cd a b w) :: signs a b w
theorem cd_lt (a b i : Nat) : cd a b i < 4 := by unfold cd bit; omega
theorem signs_len (a b : Nat) : ∀ n, (signs a b n).length = n
  | 0 => rfl
  | n + 1 => by simp [signs, signs_len a b n]
/-- the sign of a group that is not known, by counts -/
def gsign (l : List Nat) : Nat := if 0 < l.count 120 then (if l.count 120 = l.length then 120 else 88) else if l.count 122 = l.length then 122 else 90
theorem gs_step {a b : Nat} {pre : List Int} {k m z m' z' : Int} (hk : k = 0 + pre.length) (hm : m = ((signs a b pre.length).count 120 : Nat)) (hz : z = ((signs a b pre.length).count 122 : Nat))
    (hc : (((cd a b k.toNat : Nat) : Int) = 3 ∧ m' = m + 1 ∧ z' = z) ∨ (((cd a b k.toNat : Nat) : Int) = 2 ∧ m' = m ∧ z' = z + 1) ∨ (((cd a b k.toNat : Nat) : Int) ≠ 3 ∧ ((cd a b k.toNat : Nat) : Int) ≠ 2 ∧ m' = m ∧ z' = z)) :
    m' = ((signs a b (pre ++ [k]).length).count 120 : Nat) ∧ z' = ((signs a b (pre ++ [k]).length).count 122 : Nat) := by
  have e : (pre ++ [k]).length = pre.length + 1 := by simp
  have hk' : k.toNat = pre.length := by omega
  rw [hk'] at hc
  rw [e]
  have h4 := cd_lt a b pre.length
  simp only [signs, List.count_cons]
  generalize cd a b pre.length = q at *
  unfold sgn
  rcases hc with ⟨h, h1, h2⟩ | ⟨h, h1, h2⟩ | ⟨h, h', h1, h2⟩
  · have : q = 3 := by omega
    subst this; simp; omega
  · have : q = 2 := by omega
    subst this; simp; omega
  · have : q = 0 ∨ q = 1 := by omega
    rcases this with rfl | rfl <;> simp <;> omega
theorem gs_end {a b n k : Nat} {m z : Int} (hm : m = ((signs a b k).count 120 : Nat)) (hz : z = ((signs a b k).count 122 : Nat)) (hk : k = n) {y : Str} {g : Nat}
    (hy : y = ⟨#[g]⟩) (h : (m > 0 ∧ m = n ∧ g = 120) ∨ (m > 0 ∧ m ≠ n ∧ g = 88) ∨ (¬ m > 0 ∧ z = n ∧ g = 122) ∨ (¬ m > 0 ∧ z ≠ n ∧ g = 90)) {t : Tok} :
    ∃ u, Value.str y t = .str ⟨#[gsign (signs a b n)]⟩ u := by
  subst hk
  refine ⟨t, ?_⟩
  have hl := signs_len a b k
  rw [hy]
  congr
  unfold gsign
  rw [hl]
  rcases h with ⟨h1, h2, h3⟩ | ⟨h1, h2, h3⟩ | ⟨h1, h2, h3⟩ | ⟨h1, h2, h3⟩
  · rw [if_pos (by omega), if_pos (by omega), h3]
  · rw [if_pos (by omega), if_neg (by omega), h3]
  · rw [if_neg (by omega), if_pos (by omega), h3]
  · rw [if_neg (by omega), if_neg (by omega), h3]
theorem s_x : Str.ofString "x" = ⟨#[120]⟩ := by decide +kernel
theorem s_X : Str.ofString "X" = ⟨#[88]⟩ := by decide +kernel
theorem s_z : Str.ofString "z" = ⟨#[122]⟩ := by decide +kernel
theorem s_Z : Str.ofString "Z" = ⟨#[90]⟩ := by decide +kernel

set_option maxHeartbeats 1000000 in
theorem group_sign_c {w : World} {news : List (Addr × Obj)} {D : Addr} {n a b : Nat} {t1 t2 t3 : Tok} {c : Nat} (hD : (D, vecO n a b t1 t2 t3 c) ∈ news) (hn : n ≤ 40) :
    Ct0 w 70 2 news [.ref D] (fun r => ∃ u, r = .str ⟨#[gsign (signs a b n)]⟩ u) := by
  w_top off
  k_with_none
  k_with "mem" => first | (with_reducible assumption) | exact List.Mem.head _ | (refine List.mem_cons_of_mem _ ?_; k_extra "mem") | (refine List.mem_append.mpr (.inl ?_); k_extra "mem") | (refine List.mem_append.mpr (.inr ?_); k_extra "mem")
  unfold Ct0
  k_fill
  intro fp9 loose9 mean9 mg9 mb9 dp un gd9 cn9 cs9 fa9 ccd9 cl9 outer9 A9 base9 hz9 L9 m9 s9 Q9 E9 B9 F9 X9 N9 T9 hk9 hd9 hu9 hret
  refine wpAny_call ?_
  k_dflt cell_enter
  k_with "mine call" => (k_dflt (refine' Ct0.use (code_c ?hD ?h) ?u1 ?u2 ?u3 ?u4 ?u5 ?uK ?ud ?uu ?_; (case u1 => k_asm); (case u2 => k_asm); (case u3 => k_asm); (case u4 => k_asm); (case u5 => k_asm); (case uK => first | exact rfl | assumption); (case ud => ktr_room); (case uu => ktr_units); (case hD => k_extra "mem"); (case h => omega); intro r9 h9 tk9 F9 N9 ho9; (first | (obtain ⟨t91, t92, t93, c9, e9⟩ := ho9; subst e9) | (obtain ⟨t9, e9⟩ := ho9; subst e9) | subst ho9 | skip); (try dsimp only); (try k_sweep); (try k_fold)))
  k_with "pyIter ref" => k_state (fun pre marks zs => marks = ((signs a b pre.length).count 120 : Nat) ∧ zs = ((signs a b pre.length).count 122 : Nat)) "marks" "zs"
  k_with "facts" => exact True.intro
  k_with "state" => first | exact ⟨rfl, rfl⟩ | exact gs_step (by assumption) (by assumption) (by assumption) (by omega)
  k_steps
  all_goals refine end0 hret (by k_asm) (by k_asm) (fun p hp => hp) ?_
  · exact gs_end (by assumption) (by assumption) (by simp [rangeKs_length]) s_x (by omega)
  · exact gs_end (by assumption) (by assumption) (by simp [rangeKs_length]) s_X (by omega)
  · exact gs_end (by assumption) (by assumption) (by simp [rangeKs_length]) s_z (by omega)
  · exact gs_end (by assumption) (by assumption) (by simp [rangeKs_length]) s_Z (by omega)


/-- the code of the sixteen signs -/
def hexd (n : Nat) : Nat := if n < 10 then 48 + n else 87 + n
/-- the sign of one group of k bits -/
noncomputable def dig (k a b : Nat) : Nat := if b % 2 ^ k = 0 then hexd (a % 2 ^ k) else gsign (signs (a % 2 ^ k) (b % 2 ^ k) k)
noncomputable def digits (sz : Nat) : Nat → Nat → Nat → Nat → List Nat
  | 0, _, _, _ => []
  | f + 1, w, a, b => if w = 0 then [] else digits sz f (w - sz) (a / 2 ^ sz) (b / 2 ^ sz) ++ [dig (min sz w) a b]
structure GInv (n a b sz lo : Nat) (row : List Str) : Prop where
  it : ∃ cs f, row = chs cs ∧ cs.length ≤ lo ∧ n - lo ≤ f ∧ digits sz n n a b = digits sz f (n - lo) (a / 2 ^ lo) (b / 2 ^ lo) ++ cs.reverse
theorem GInv.start {n a b sz : Nat} : GInv n a b sz 0 [] := ⟨[], n, rfl, by simp, by omega, by simp⟩
theorem GInv.step {n a b sz lo : Nat} {row : List Str} (G : GInv n a b sz lo row) (hs : 0 < sz) (hlo : lo < n) {x : Str} (hx : x = S [dig (min sz (n - lo)) (a / 2 ^ lo) (b / 2 ^ lo)]) : GInv n a b sz (lo + sz) (row ++ [x]) := by
  obtain ⟨cs, f, h1, h2, h3, h4⟩ := G.it
  obtain ⟨f', rfl⟩ : ∃ f', f = f' + 1 := ⟨f - 1, by omega⟩
  refine ⟨cs ++ [dig (min sz (n - lo)) (a / 2 ^ lo) (b / 2 ^ lo)], f', ?_, by simp; omega, by omega, ?_⟩
  · rw [chs_app, h1, hx]; rfl
  · rw [h4, digits, if_neg (by omega), List.reverse_append, Nat.div_div_eq_div_mul, Nat.div_div_eq_div_mul, ← Nat.pow_add, show n - lo - sz = n - (lo + sz) by omega]
    simp
theorem GInv.done {n a b sz lo : Nat} {row : List Str} (G : GInv n a b sz lo row) (hlo : ¬ lo < n) : row.reverse = chs (digits sz n n a b) := by
  obtain ⟨cs, f, h1, h2, h3, h4⟩ := G.it
  have e : n - lo = 0 := by omega
  rw [e] at h4
  have e2 : digits sz f 0 (a / 2 ^ lo) (b / 2 ^ lo) = [] := by cases f <;> simp [digits]
  rw [e2, List.nil_append] at h4
  rw [h1, chs_rev, h4]
theorem GInv.len {n a b sz lo : Nat} {row : List Str} (G : GInv n a b sz lo row) : row.length ≤ lo := by
  obtain ⟨cs, f, h1, h2, h3, h4⟩ := G.it
  rw [h1, chs_len]; exact h2
theorem digits_len (sz : Nat) (hs : 0 < sz) : ∀ f w a b, (digits sz f w a b).length ≤ w
  | 0, _, _, _ => Nat.zero_le _
  | f + 1, w, a, b => by
    rw [digits]
    split
    · simp
    · have := digits_len sz hs f (w - sz) (a / 2 ^ sz) (b / 2 ^ sz)
      simp only [List.length_append, List.length_cons, List.length_nil]
      omega

theorem GInv.step' {n a b sz i : Nat} {row : List Str} (G : GInv n a b sz i row) (hs : 0 < sz) (hlo : i < n) {x : Str} (hx : x = S [dig (min sz (n - i)) (a / 2 ^ i) (b / 2 ^ i)]) : GInv n a b sz ((i + sz : Nat) : Int).toNat (row ++ [x]) :=
  G.step hs (by omega) hx
theorem dig_known {k a b : Nat} (h : b % 2 ^ k = 0) : S [hexd (a % 2 ^ k)] = S [dig k a b] := by unfold dig; rw [if_pos h]
theorem dig_un {k a b : Nat} (h : b % 2 ^ k ≠ 0) : S [gsign (signs (a % 2 ^ k) (b % 2 ^ k) k)] = S [dig k a b] := by unfold dig; rw [if_neg h]
def hexL : List Nat := [48, 49, 50, 51, 52, 53, 54, 55, 56, 57, 97, 98, 99, 100, 101, 102]
theorem hex_l : Str.ofString "0123456789abcdef" = S hexL := by decide +kernel
theorem hex_at : ∀ i, i < 16 → hexL[i]? = some (hexd i) := by decide
theorem mod_16 {x k : Nat} (h : k ≤ 4) : x % 2 ^ k < 16 :=
  Nat.lt_of_lt_of_le (Nat.mod_lt _ (Nat.two_pow_pos _)) (Nat.pow_le_pow_right (by decide) h)

set_option maxHeartbeats 1000000 in
theorem grouped_digits_c {w : World} {news : List (Addr × Obj)} {D : Addr} {n a b : Nat} {t1 t2 t3 : Tok} {c : Nat} {sz : Nat} {t4 : Tok} (hD : (D, vecO n a b t1 t2 t3 c) ∈ news) (hn : n ≤ 40) (ha : Small a) (hb : Small b) (hs : 0 < sz) (hs4 : sz ≤ 4) :
    Ct0 w 77 4 news [.ref D, .int (sz : Int) t4] (fun r => ∃ u, r = .str (S (digits sz n n a b)) u) := by
  w_top off
  k_with_none
  k_with "mem" => first | (with_reducible assumption) | exact List.Mem.head _ | (refine List.mem_cons_of_mem _ ?_; k_extra "mem") | (refine List.mem_append.mpr (.inl ?_); k_extra "mem") | (refine List.mem_append.mpr (.inr ?_); k_extra "mem")
  unfold Ct0
  k_fill
  intro fp9 loose9 mean9 mg9 mb9 dp un gd9 cn9 cs9 fa9 ccd9 cl9 outer9 A9 base9 hz9 L9 m9 s9 Q9 E9 B9 F9 X9 N9 T9 hk9 hd9 hu9 hret
  refine wpAny_call ?_
  k_dflt cell_enter
  k_with "mine call" => (k_dflt (refine' Ct0.use (group_sign_c ?hD ?h) ?u1 ?u2 ?u3 ?u4 ?u5 ?uK ?ud ?uu ?_; (case u1 => k_asm); (case u2 => k_asm); (case u3 => k_asm); (case u4 => k_asm); (case u5 => k_asm); (case uK => first | exact rfl | assumption); (case ud => ktr_room); (case uu => ktr_units); (case hD => k_extra "mem"); (case h => omega); intro r9 h9 tk9 F9 N9 ho9; (first | (obtain ⟨t91, t92, t93, c9, e9⟩ := ho9; subst e9) | (obtain ⟨t9, e9⟩ := ho9; subst e9) | subst ho9 | skip); (try dsimp only); (try k_sweep); (try k_fold)))
  k_with "mine call" => (k_dflt (refine' Ct0.use (is_known_c ?hD) ?u1 ?u2 ?u3 ?u4 ?u5 ?uK ?ud ?uu ?_; (case u1 => k_asm); (case u2 => k_asm); (case u3 => k_asm); (case u4 => k_asm); (case u5 => k_asm); (case uK => first | exact rfl | assumption); (case ud => ktr_room); (case uu => ktr_units); (case hD => k_extra "mem"); intro r9 h9 tk9 F9 N9 ho9; (first | (obtain ⟨t91, t92, t93, c9, e9⟩ := ho9; subst e9) | (obtain ⟨t9, e9⟩ := ho9; subst e9) | subst ho9 | skip); (try dsimp only); (try k_sweep); (try k_fold)))
  k_with "mine call" => (k_dflt (refine' CtT.use (slice_vec_c ?hD ?hn ?ha ?hb ?hk ?hlo ?hk4) ?u1 ?u2 ?u3 ?u4 ?u5 ?uK ?ud ?uu ?_; (case u1 => k_asm); (case u2 => k_asm); (case u3 => k_asm); (case u4 => k_asm); (case u5 => k_asm); (case uK => first | exact rfl | assumption); (case ud => ktr_room); (case uu => ktr_units); (case hD => k_extra "mem"); (case hn => omega); (case ha => assumption); (case hb => assumption); (case hk => omega); (case hlo => omega); (case hk4 => omega); intro D9 h9 tk9 o9 F9 N9 l9 ho9; (try k_lt l9); (first | (obtain ⟨t91, t92, t93, c9, e9⟩ := ho9; subst e9) | (obtain ⟨t9, e9⟩ := ho9; subst e9) | subst ho9 | skip); (try dsimp only); (try k_sweep); (try k_fold)))
  k_with "exec While Compare cons nil" => (k_while (fun _ lo row => 0 ≤ lo ∧ GInv n a b sz lo.toNat row ∧ (row.length : Int) ≤ lo ∧ lo ≤ 44) (fun _ lo row => ((n : Int) - lo).toNat) "lo" "row$"; (rename (0 : Int) ≤ _ => h0); obtain ⟨i9, e9⟩ := Int.eq_ofNat_of_zero_le h0; subst e9; clear h0; (try simp only [toNat_c] at *))
  k_with "facts" => first | exact PyProof.Rows.StrsAre.nil | (with_reducible assumption) | exact PyProof.Rows.StrsAre.append' (by assumption) (.cons _ _ .nil) | exact True.intro
  k_with "state" => first
    | exact ⟨by omega, GInv.start, by simp, by omega⟩
    | exact ⟨by omega, GInv.step' (by assumption) (by assumption) (by omega) (dig_known (by assumption)), by simp only [List.length_append, List.length_cons, List.length_nil]; omega, by omega⟩
    | exact ⟨by omega, GInv.step' (by assumption) (by assumption) (by omega) (dig_un (by assumption)), by simp only [List.length_append, List.length_cons, List.length_nil]; omega, by omega⟩
  k_with "subscriptTail Name Subscript str int" => (k_dflt (refine' str_item hex_l ?hk (hex_at _ ?hi) ?hl ?_; (case hk => with_reducible rfl); (case hi => exact mod_16 (by omega)); (case hl => decide)); intro t9 tk9)
  k_with "call builtin:list.reverse" => (k_dflt (refine' rev_K ?F ?N ?U ?z ?_; (case F => k_asm); (case N => k_asm); (case U => k_upd); (case z => omega)); intro h' F' N'; (try k_sweep))
  k_with "call builtin:str.join" => (k_dflt (refine' join_K ?N ?m ?s ?y ?l ?_; (case N => k_asm); (case m => k_extra "mem"); (case s => exact strs_rev (by assumption)); (case y => exact GInv.done (by assumption) (by omega)); (case l => exact Nat.le_trans (digits_len _ (by assumption) _ _ _ _) (by omega))); intro t9 k9)
  k_steps
  exact end0 hret (by k_asm) (by k_asm) (fun p hp => List.mem_cons_of_mem _ hp) ⟨_, rfl⟩

def sgnL : List Nat := [48, 49, 122, 120]
theorem sgn_l : Str.ofString "01zx" = S sgnL := by decide +kernel
theorem sgn_at : ∀ q, q < 4 → sgnL[q]? = some (sgn q) := by decide
theorem signs_at (a b : Nat) : ∀ n j, j < n → (signs a b n)[j]? = some (sgn (cd a b (n - 1 - j)))
  | 0, _, h => absurd h (Nat.not_lt_zero _)
  | n + 1, 0, _ => rfl
  | n + 1, j + 1, h => by
    show (signs a b n)[j]? = _
    rw [signs_at a b n j (by omega), show n + 1 - 1 - (j + 1) = n - 1 - j by omega]
structure BInv (n a b k : Nat) (row : List Str) : Prop where
  it : row = chs ((signs a b n).take k)
theorem BInv.step {n a b : Nat} {pre : List Int} {k : Int} {row : List Str} {x : Str} (B : BInv n a b pre.length row) (h0 : 0 ≤ k) (hk : k = (n : Int) - 1 - pre.length) (hx : x = S [sgn (cd a b k.toNat)]) : BInv n a b (pre ++ [k]).length (row ++ [x]) := by
  refine ⟨?_⟩
  have e : (pre ++ [k]).length = pre.length + 1 := by simp
  have hj : k.toNat = n - 1 - pre.length := by omega
  rw [e, List.take_add_one, signs_at a b n pre.length (by omega), chs_app, B.it, hx, hj]
  rfl

theorem BInv.done {n a b k : Nat} {row : List Str} (B : BInv n a b k row) (hk : k = n) : row = chs (signs a b n) := by
  rw [B.it, hk, List.take_of_length_le (by rw [signs_len]; exact Nat.le_refl _)]

set_option maxHeartbeats 1000000 in
theorem bits_text_c {w : World} {news : List (Addr × Obj)} {D : Addr} {n a b : Nat} {t1 t2 t3 : Tok} {c : Nat} (hD : (D, vecO n a b t1 t2 t3 c) ∈ news) (hn : n ≤ 40) :
    Ct0 w 63 2 news [.ref D] (fun r => ∃ u, r = .str (S (signs a b n)) u) := by
  w_top off
  k_with_none
  k_with "mem" => first | (with_reducible assumption) | exact List.Mem.head _ | (refine List.mem_cons_of_mem _ ?_; k_extra "mem") | (refine List.mem_append.mpr (.inl ?_); k_extra "mem") | (refine List.mem_append.mpr (.inr ?_); k_extra "mem")
  unfold Ct0
  k_fill
  intro fp9 loose9 mean9 mg9 mb9 dp un gd9 cn9 cs9 fa9 ccd9 cl9 outer9 A9 base9 hz9 L9 m9 s9 Q9 E9 B9 F9 X9 N9 T9 hk9 hd9 hu9 hret
  refine wpAny_call ?_
  k_dflt cell_enter
  k_with "mine call" => (k_dflt (refine' Ct0.use (code_c ?hD ?h) ?u1 ?u2 ?u3 ?u4 ?u5 ?uK ?ud ?uu ?_; (case u1 => k_asm); (case u2 => k_asm); (case u3 => k_asm); (case u4 => k_asm); (case u5 => k_asm); (case uK => first | exact rfl | assumption); (case ud => ktr_room); (case uu => ktr_units); (case hD => k_extra "mem"); (case h => omega); intro r9 h9 tk9 F9 N9 ho9; (first | (obtain ⟨t91, t92, t93, c9, e9⟩ := ho9; subst e9) | (obtain ⟨t9, e9⟩ := ho9; subst e9) | subst ho9 | skip); (try dsimp only); (try k_sweep); (try k_fold)))
  k_with "pyIter ref" => k_state (fun pre row => BInv n a b pre.length row ∧ row.length = pre.length) "row$"
  k_with "facts" => first | exact PyProof.Rows.StrsAre.nil | (with_reducible assumption) | exact PyProof.Rows.StrsAre.append' (by assumption) (.cons _ _ .nil) | exact True.intro
  k_with "state" => first | exact ⟨⟨rfl⟩, rfl⟩ | exact ⟨BInv.step (by assumption) (by omega) (by assumption) rfl, by simp only [List.length_append, List.length_cons, List.length_nil]; omega⟩
  k_with "call builtin:str.join" => (k_dflt (refine' join_K ?N ?m ?s ?y ?l ?_; (case N => k_asm); (case m => k_extra "mem"); (case s => assumption); (case y => exact BInv.done (by assumption) (by rw [downKs_length]; omega)); (case l => rw [signs_len]; omega)); intro t9 k9)
  k_with "subscriptTail Name Call str int" => (k_dflt (refine' str_item sgn_l ?hk (sgn_at _ ?hi) ?hl ?_; (case hk => with_reducible rfl); (case hi => exact cd_lt _ _ _); (case hl => decide)); intro t9 tk9)
  k_steps
  exact end0 hret (by k_asm) (by k_asm) (fun p hp => List.mem_cons_of_mem _ hp) ⟨_, rfl⟩

set_option maxHeartbeats 1000000 in
theorem binary_digits_c {w : World} {news : List (Addr × Obj)} {D : Addr} {n a b : Nat} {t1 t2 t3 : Tok} {c : Nat} (hD : (D, vecO n a b t1 t2 t3 c) ∈ news) (hn : n ≤ 40) :
    Ct0 w 84 3 news [.ref D] (fun r => ∃ u, r = .str (S (signs a b n)) u) := by
  w_top off
  k_with_none
  k_with "mem" => first | (with_reducible assumption) | exact List.Mem.head _ | (refine List.mem_cons_of_mem _ ?_; k_extra "mem") | (refine List.mem_append.mpr (.inl ?_); k_extra "mem") | (refine List.mem_append.mpr (.inr ?_); k_extra "mem")
  unfold Ct0
  k_fill
  intro fp9 loose9 mean9 mg9 mb9 dp un gd9 cn9 cs9 fa9 ccd9 cl9 outer9 A9 base9 hz9 L9 m9 s9 Q9 E9 B9 F9 X9 N9 T9 hk9 hd9 hu9 hret
  refine wpAny_call ?_
  k_dflt cell_enter
  k_with "mine call" => (k_dflt (refine' Ct0.use (bits_text_c ?hD ?h) ?u1 ?u2 ?u3 ?u4 ?u5 ?uK ?ud ?uu ?_; (case u1 => k_asm); (case u2 => k_asm); (case u3 => k_asm); (case u4 => k_asm); (case u5 => k_asm); (case uK => first | exact rfl | assumption); (case ud => ktr_room); (case uu => ktr_units); (case hD => k_extra "mem"); (case h => omega); intro r9 h9 tk9 F9 N9 ho9; (first | (obtain ⟨t91, t92, t93, c9, e9⟩ := ho9; subst e9) | (obtain ⟨t9, e9⟩ := ho9; subst e9) | subst ho9 | skip); (try dsimp only); (try k_sweep); (try k_fold)))
  k_steps
  exact end0 hret (by k_asm) (by k_asm) (fun p hp => hp) ⟨_, rfl⟩

set_option maxHeartbeats 1000000 in
theorem octal_digits_c {w : World} {news : List (Addr × Obj)} {D : Addr} {n a b : Nat} {t1 t2 t3 : Tok} {c : Nat} (hD : (D, vecO n a b t1 t2 t3 c) ∈ news) (hn : n ≤ 40) (ha : Small a) (hb : Small b) :
    Ct0 w 91 5 news [.ref D] (fun r => ∃ u, r = .str (S (digits 3 n n a b)) u) := by
  w_top off
  k_with_none
  k_with "mem" => first | (with_reducible assumption) | exact List.Mem.head _ | (refine List.mem_cons_of_mem _ ?_; k_extra "mem") | (refine List.mem_append.mpr (.inl ?_); k_extra "mem") | (refine List.mem_append.mpr (.inr ?_); k_extra "mem")
  unfold Ct0
  k_fill
  intro fp9 loose9 mean9 mg9 mb9 dp un gd9 cn9 cs9 fa9 ccd9 cl9 outer9 A9 base9 hz9 L9 m9 s9 Q9 E9 B9 F9 X9 N9 T9 hk9 hd9 hu9 hret
  refine wpAny_call ?_
  k_dflt cell_enter
  k_with "mine call" => (k_dflt (refine' Ct0.use (grouped_digits_c (sz := 3) ?hD ?h ?ha ?hb ?h1 ?h2) ?u1 ?u2 ?u3 ?u4 ?u5 ?uK ?ud ?uu ?_; (case u1 => k_asm); (case u2 => k_asm); (case u3 => k_asm); (case u4 => k_asm); (case u5 => k_asm); (case uK => first | exact rfl | assumption); (case ud => ktr_room); (case uu => ktr_units); (case hD => k_extra "mem"); (case h => omega); (case ha => assumption); (case hb => assumption); (case h1 => decide); (case h2 => decide); intro r9 h9 tk9 F9 N9 ho9; (first | (obtain ⟨t91, t92, t93, c9, e9⟩ := ho9; subst e9) | (obtain ⟨t9, e9⟩ := ho9; subst e9) | subst ho9 | skip); (try dsimp only); (try k_sweep); (try k_fold)))
  k_steps
  exact end0 hret (by k_asm) (by k_asm) (fun p hp => hp) ⟨_, rfl⟩

set_option maxHeartbeats 1000000 in
theorem hex_digits_c {w : World} {news : List (Addr × Obj)} {D : Addr} {n a b : Nat} {t1 t2 t3 : Tok} {c : Nat} (hD : (D, vecO n a b t1 t2 t3 c) ∈ news) (hn : n ≤ 40) (ha : Small a) (hb : Small b) :
    Ct0 w 98 5 news [.ref D] (fun r => ∃ u, r = .str (S (digits 4 n n a b)) u) := by
  w_top off
  k_with_none
  k_with "mem" => first | (with_reducible assumption) | exact List.Mem.head _ | (refine List.mem_cons_of_mem _ ?_; k_extra "mem") | (refine List.mem_append.mpr (.inl ?_); k_extra "mem") | (refine List.mem_append.mpr (.inr ?_); k_extra "mem")
  unfold Ct0
  k_fill
  intro fp9 loose9 mean9 mg9 mb9 dp un gd9 cn9 cs9 fa9 ccd9 cl9 outer9 A9 base9 hz9 L9 m9 s9 Q9 E9 B9 F9 X9 N9 T9 hk9 hd9 hu9 hret
  refine wpAny_call ?_
  k_dflt cell_enter
  k_with "mine call" => (k_dflt (refine' Ct0.use (grouped_digits_c (sz := 4) ?hD ?h ?ha ?hb ?h1 ?h2) ?u1 ?u2 ?u3 ?u4 ?u5 ?uK ?ud ?uu ?_; (case u1 => k_asm); (case u2 => k_asm); (case u3 => k_asm); (case u4 => k_asm); (case u5 => k_asm); (case uK => first | exact rfl | assumption); (case ud => ktr_room); (case uu => ktr_units); (case hD => k_extra "mem"); (case h => omega); (case ha => assumption); (case hb => assumption); (case h1 => decide); (case h2 => decide); intro r9 h9 tk9 F9 N9 ho9; (first | (obtain ⟨t91, t92, t93, c9, e9⟩ := ho9; subst e9) | (obtain ⟨t9, e9⟩ := ho9; subst e9) | subst ho9 | skip); (try dsimp only); (try k_sweep); (try k_fold)))
  k_steps
  exact end0 hret (by k_asm) (by k_asm) (fun p hp => hp) ⟨_, rfl⟩


structure Sm18 (n : Int) : Prop where
  lt : n.natAbs < 10 ^ 18
theorem whl18 {n : Int} (h : Sm18 n) : decide ((10 : Int) ^ Int.toNat 18 ≤ if n < 0 then -n else n) = false := by
  have e : (10 : Int) ^ Int.toNat 18 = 1000000000000000000 := by decide +kernel
  have e2 : (10 : Nat) ^ 18 = 1000000000000000000 := by decide +kernel
  have h1 := h.lt
  rw [e2] at h1
  rw [e]
  refine decide_eq_false ?_
  split <;> omega

theorem log2_18 {n : Int} (h : Sm18 n) : (if n < 0 then -n else n).natAbs.log2 < 1920 := by
  have e2 : (10 : Nat) ^ 18 = 1000000000000000000 := by decide +kernel
  have h1 := h.lt
  rw [e2] at h1
  have e : (if n < 0 then -n else n).natAbs = n.natAbs := by split <;> omega
  rw [e]
  by_cases h0 : n.natAbs = 0
  · rw [h0]; decide
  · exact Nat.lt_of_lt_of_le ((Nat.log2_lt h0).mpr (Nat.lt_trans h1 (by decide : 1000000000000000000 < 2 ^ 60))) (by decide)
/-- an int's text -/
def numT (n : Int) : Str := Str.ofString (toString n)
def numL (n : Int) : List Nat := (numT n).cps.toList
theorem num_S (n : Int) : numT n = S (numL n) := S_toList _
theorem ofString_app (a b : String) : Str.ofString (a ++ b) = Str.ofString a ++ Str.ofString b := by
  rw [Str.ofString_eq_toList, Str.ofString_eq_toList, Str.ofString_eq_toList, String.toList_append, List.map_append]
  exact (S_app _ _).symm
theorem numT_neg {n : Int} (h : n < 0) : numT n = Str.ofString "-" ++ numT (-n) := by
  unfold numT
  rw [← ofString_app]
  congr 1
  obtain ⟨k, rfl⟩ : ∃ k : Nat, n = Int.negSucc k := by
    cases n with
    | ofNat k => exact absurd h (by simp)
    | negSucc k => exact ⟨k, rfl⟩
  rfl

theorem numT_len {n : Int} (h : Sm18 n) : (Str.ofString (toString (if n < 0 then -n else n))).length ≤ 100 := by
  have h1 := h.lt
  have e : (if n < 0 then -n else n).natAbs = n.natAbs := by split <;> omega
  have h2 := int_text_length_le10 (a := if n < 0 then -n else n) (k := 18) (by decide) (by rw [e]; exact h1)
  rw [PySem.ofString_length]
  omega

set_option maxHeartbeats 1000000 in
theorem whole_text_c {w : World} {news : List (Addr × Obj)} {n : Int} {t : Tok} (hn : Sm18 n) :
    Ct0 w 105 1 news [.int n t] (fun r => ∃ u, r = .str (S (numL n)) u) := by
  w_top off
  k_with_none
  k_with "mem" => first | (with_reducible assumption) | exact List.Mem.head _ | (refine List.mem_cons_of_mem _ ?_; k_extra "mem") | (refine List.mem_append.mpr (.inl ?_); k_extra "mem") | (refine List.mem_append.mpr (.inr ?_); k_extra "mem")
  unfold Ct0
  k_fill
  intro fp9 loose9 mean9 mg9 mb9 dp un gd9 cn9 cs9 fa9 ccd9 cl9 outer9 A9 base9 hz9 L9 m9 s9 Q9 E9 B9 F9 X9 N9 T9 hk9 hd9 hu9 hret
  refine wpAny_call ?_
  k_dflt cell_enter
  k_with "WhlIf" => refine WhlIf.no (whl18 (by assumption)) ?_
  k_with "call type:str" => (k_dflt (refine' P.str_of_int ?h ?_; (case h => exact log2_18 (by assumption))))
  k_with "call builtin:str.join" => first
    | (k_dflt (refine' join_1 ?N ?m ?l ?_; (case N => k_asm); (case m => k_extra "mem"); (case l => exact Nat.le_trans (numT_len (by assumption)) (by decide))); intro t9 k9)
    | (k_dflt (refine' join_2 ?N ?m ?l ?l2 ?_; (case N => k_asm); (case m => k_extra "mem"); (case l => decide); (case l2 => exact Nat.le_trans (numT_len (by assumption)) (by decide))); intro t9 k9)
  k_steps
  all_goals refine end0 hret (by k_asm) (by k_asm) (fun p hp => List.mem_cons_of_mem _ hp) ⟨_, congrArg (Value.str · _) ?_⟩
  · rw [if_pos (by assumption), ← num_S]; exact (numT_neg (by assumption)).symm
  · rw [if_neg (by assumption), ← num_S]; rfl
theorem numL_len {n : Int} (h : Sm18 n) : (numL n).length ≤ 100 := by
  have h2 := int_text_length_le10 (a := n) (k := 18) (by decide) h.lt
  have e : (numT n).length = (numL n).length := by rw [num_S, S_len]
  rw [← e]
  unfold numT
  rw [PySem.ofString_length]
  omega

/-- the number that a known vector stands for -/
def numV (n a : Nat) (sg : Bool) : Int := if sg = true ∧ a / 2 ^ (n - 1) = 1 then (a : Int) - (2 ^ n : Nat) else a
/-- the text of a vector as a decimal -/
noncomputable def decL (n a b : Nat) (sg : Bool) : List Nat := if b = 0 then numL (numV n a sg) else [gsign (signs a b n)]
theorem two40 {n : Nat} (h : n ≤ 40) : 2 ^ n ≤ 2 ^ 40 := Nat.pow_le_pow_right (by decide) h
theorem sm_num {n a : Nat} {sg : Bool} (ha : Small a) (hn : n ≤ 40) : Sm18 (numV n a sg) := by
  refine ⟨?_⟩
  have h1 := ha.lt
  have h2 := two40 hn
  have e1 : (2 : Nat) ^ 40 = 1099511627776 := by decide +kernel
  have e2 : (10 : Nat) ^ 18 = 1000000000000000000 := by decide +kernel
  rw [e1] at h1 h2
  rw [e2]
  unfold numV
  generalize 2 ^ n = p at *
  split <;> omega
theorem dec_known {n a b : Nat} {sg : Bool} (h : b = 0) : S (numL (numV n a sg)) = S (decL n a b sg) := by unfold decL; rw [if_pos h]
theorem dec_un {n a b : Nat} {sg : Bool} (h : b ≠ 0) : S [gsign (signs a b n)] = S (decL n a b sg) := by unfold decL; rw [if_neg h]

set_option maxHeartbeats 1000000 in
theorem decimal_digits_c {w : World} {news : List (Addr × Obj)} {D : Addr} {n a b : Nat} {t1 t2 t3 : Tok} {c : Nat} {sg : Bool} (hD : (D, vecO n a b t1 t2 t3 c) ∈ news) (h0 : 0 < n) (hn : n ≤ 40) (ha : Small a) :
    Ct0 w 112 3 news [.ref D, .bool sg] (fun r => ∃ u, r = .str (S (decL n a b sg)) u) := by
  w_top off
  k_with_none
  k_with "mem" => first | (with_reducible assumption) | exact List.Mem.head _ | (refine List.mem_cons_of_mem _ ?_; k_extra "mem") | (refine List.mem_append.mpr (.inl ?_); k_extra "mem") | (refine List.mem_append.mpr (.inr ?_); k_extra "mem")
  unfold Ct0
  k_fill
  intro fp9 loose9 mean9 mg9 mb9 dp un gd9 cn9 cs9 fa9 ccd9 cl9 outer9 A9 base9 hz9 L9 m9 s9 Q9 E9 B9 F9 X9 N9 T9 hk9 hd9 hu9 hret
  refine wpAny_call ?_
  k_dflt cell_enter
  k_with "mine call" => (k_dflt (refine' Ct0.use (group_sign_c ?hD ?h) ?u1 ?u2 ?u3 ?u4 ?u5 ?uK ?ud ?uu ?_; (case u1 => k_asm); (case u2 => k_asm); (case u3 => k_asm); (case u4 => k_asm); (case u5 => k_asm); (case uK => first | exact rfl | assumption); (case ud => ktr_room); (case uu => ktr_units); (case hD => k_extra "mem"); (case h => omega); intro r9 h9 tk9 F9 N9 ho9; (first | (obtain ⟨t91, t92, t93, c9, e9⟩ := ho9; subst e9) | (obtain ⟨t9, e9⟩ := ho9; subst e9) | subst ho9 | skip); (try dsimp only); (try k_sweep); (try k_fold)))
  k_with "mine call" => (k_dflt (refine' Ct0.use (whole_text_c ?h) ?u1 ?u2 ?u3 ?u4 ?u5 ?uK ?ud ?uu ?_; (case u1 => k_asm); (case u2 => k_asm); (case u3 => k_asm); (case u4 => k_asm); (case u5 => k_asm); (case uK => first | exact rfl | assumption); (case ud => ktr_room); (case uu => ktr_units); (case h => exact sm_num (by assumption) (by assumption)); intro r9 h9 tk9 F9 N9 ho9; (first | (obtain ⟨t91, t92, t93, c9, e9⟩ := ho9; subst e9) | (obtain ⟨t9, e9⟩ := ho9; subst e9) | subst ho9 | skip); (try dsimp only); (try k_sweep); (try k_fold)))
  k_with "mine call" => (k_dflt (refine' Ct0.use (to_int_c ?hD ?h0 ?hn) ?u1 ?u2 ?u3 ?u4 ?u5 ?uK ?ud ?uu ?_; (case u1 => k_asm); (case u2 => k_asm); (case u3 => k_asm); (case u4 => k_asm); (case u5 => k_asm); (case uK => first | exact rfl | assumption); (case ud => ktr_room); (case uu => ktr_units); (case hD => k_extra "mem"); (case h0 => assumption); (case hn => omega); intro r9 h9 tk9 F9 N9 ho9; (rcases ho9 with ⟨hd91, e9⟩ | ⟨hd91, t9, e9⟩) <;> (subst e9; (try dsimp only); (try k_sweep); (try k_fold))))
  k_steps
  all_goals refine end0 hret (by k_asm) (by k_asm) (fun p hp => hp) ⟨_, congrArg (Value.str · _) ?_⟩
  · exact dec_un (by assumption)
  · exact dec_known (by assumption)
theorem decL_len {n a b : Nat} {sg : Bool} (ha : Small a) (hn : n ≤ 40) : (decL n a b sg).length ≤ 100 := by
  unfold decL
  split
  · exact numL_len (sm_num ha hn)
  · simp

/-- the octets of a number, the highest first, none for nought -/
noncomputable def octs : Nat → Nat → List Nat
  | 0, _ => []
  | f + 1, r => if r = 0 then [] else octs f (r / 256) ++ [r % 256]
structure OInv (r0 : Nat) (rest : Int) (row : List Str) : Prop where
  it : ∃ (cs : List Nat) (f r : Nat), rest = (r : Int) ∧ row = chs cs ∧ r < 256 ^ f ∧ r ≤ r0 ∧ octs 8 r0 = octs f r ++ cs.reverse ∧ cs.length + f = 8
theorem OInv.start {r0 : Nat} (h : r0 < 256 ^ 8) : OInv r0 (r0 : Int) [] := ⟨[], 8, r0, rfl, rfl, h, Nat.le_refl _, by simp, rfl⟩
theorem OInv.nonneg {r0 : Nat} {rest : Int} {row : List Str} (O : OInv r0 rest row) : 0 ≤ rest := by
  obtain ⟨cs, f, r, h1, _⟩ := O.it
  omega
theorem and255 (r : Nat) : r &&& 255 = r % 256 := Nat.and_two_pow_sub_one_eq_mod r 8
theorem OInv.step {r0 r : Nat} {row : List Str} (O : OInv r0 (r : Int) row) (hr : (0 : Int) < (r : Int)) {x : Str} (hx : x = S [r &&& 255]) : OInv r0 ((r / 2 ^ 8 : Nat) : Int) (row ++ [x]) ∧ (row ++ [x]).length ≤ 8 := by
  obtain ⟨cs, f, r', h1, h2, h3, h4, h5, h6⟩ := O.it
  rw [and255] at hx
  have e : r' = r := by omega
  subst e
  cases f with
  | zero => simp at h3; omega
  | succ f =>
    refine ⟨⟨cs ++ [r' % 256], f, r' / 256, rfl, ?_, ?_, by omega, ?_, ?_⟩, ?_⟩
    · rw [chs_app, h2, hx]; rfl
    · rw [Nat.pow_succ] at h3; omega
    · rw [h5, octs, if_neg (by omega), List.reverse_append, List.append_assoc]; rfl
    · simp only [List.length_append, List.length_cons, List.length_nil]; omega
    · rw [h2, List.length_append, chs_len]; simp only [List.length_cons, List.length_nil]; omega
theorem OInv.done {r0 : Nat} {rest : Int} {row : List Str} (O : OInv r0 rest row) (h : ¬ 0 < rest) : row.reverse = chs (octs 8 r0) := by
  obtain ⟨cs, f, r, h1, h2, h3, h4, h5, h6⟩ := O.it
  have e : r = 0 := by omega
  subst e
  have e2 : octs f 0 = [] := by cases f <;> simp [octs]
  rw [e2, List.nil_append] at h5
  rw [h2, chs_rev, h5]
theorem octs_len : ∀ f r, (octs f r).length ≤ f
  | 0, _ => Nat.le_refl _
  | f + 1, r => by
    rw [octs]
    split
    · simp
    · have := octs_len f (r / 256)
      simp; omega
/-- the known bits of a vector -/
def known (n a b : Nat) : Nat := a &&& (b ^^^ (2 ^ n - 1))
theorem known_lt {n a b : Nat} (ha : Small a) : known n a b < 256 ^ 8 := by
  refine Nat.lt_of_le_of_lt Nat.and_le_left (Nat.lt_trans ha.lt (by decide))

set_option maxHeartbeats 1000000 in
theorem string_text_c {w : World} {news : List (Addr × Obj)} {D : Addr} {n a b : Nat} {t1 t2 t3 : Tok} {c : Nat} (hD : (D, vecO n a b t1 t2 t3 c) ∈ news) (hn : n ≤ 40) (ha : Small a) :
    Ct0 w 119 2 news [.ref D] (fun r => ∃ u, r = .str (S (octs 8 (known n a b))) u) := by
  w_top off
  k_with_none
  k_with "mem" => first | (with_reducible assumption) | exact List.Mem.head _ | (refine List.mem_cons_of_mem _ ?_; k_extra "mem") | (refine List.mem_append.mpr (.inl ?_); k_extra "mem") | (refine List.mem_append.mpr (.inr ?_); k_extra "mem")
  unfold Ct0
  k_fill
  intro fp9 loose9 mean9 mg9 mb9 dp un gd9 cn9 cs9 fa9 ccd9 cl9 outer9 A9 base9 hz9 L9 m9 s9 Q9 E9 B9 F9 X9 N9 T9 hk9 hd9 hu9 hret
  refine wpAny_call ?_
  k_dflt cell_enter
  k_with "mine call" => (k_dflt (refine' Ct0.use (mask_c ?h) ?u1 ?u2 ?u3 ?u4 ?u5 ?uK ?ud ?uu ?_; (case u1 => k_asm); (case u2 => k_asm); (case u3 => k_asm); (case u4 => k_asm); (case u5 => k_asm); (case uK => first | exact rfl | assumption); (case ud => ktr_room); (case uu => ktr_units); (case h => omega); intro r9 h9 tk9 F9 N9 ho9; (first | (obtain ⟨t91, t92, t93, c9, e9⟩ := ho9; subst e9) | (obtain ⟨t9, e9⟩ := ho9; subst e9) | subst ho9 | skip); (try dsimp only); (try k_sweep); (try k_fold)))
  k_with "exec While Compare cons nil" => (k_while (fun _ rest row => OInv (known n a b) rest row ∧ row.length ≤ 8) (fun _ rest row => rest.toNat) "rest" "row$"; (rename OInv _ _ _ => h0); obtain ⟨i9, e9⟩ := Int.eq_ofNat_of_zero_le (OInv.nonneg h0); subst e9)
  k_with "facts" => first | exact PyProof.Rows.StrsAre.nil | (with_reducible assumption) | exact PyProof.Rows.StrsAre.append' (by assumption) (.cons _ _ .nil) | exact True.intro
  k_with "state" => first
    | exact ⟨OInv.start (known_lt (by assumption)), by decide⟩
    | exact OInv.step (by assumption) (by assumption) rfl
  k_with "call builtin:chr" => (k_dflt (refine' n_chr ?hx ?hr ?_; (case hx => with_reducible rfl); (case hr => exact Nat.le_trans Nat.and_le_right (by decide))); intro t9 k9)
  k_with "call builtin:list.reverse" => (k_dflt (refine' rev_K ?F ?N ?U ?z ?_; (case F => k_asm); (case N => k_asm); (case U => k_upd); (case z => omega)); intro h' F' N'; (try k_sweep))
  k_with "call builtin:str.join" => (k_dflt (refine' join_K ?N ?m ?s ?y ?l ?_; (case N => k_asm); (case m => k_extra "mem"); (case s => exact strs_rev (by assumption)); (case y => exact OInv.done (by assumption) (by assumption)); (case l => exact Nat.le_trans (octs_len _ _) (by omega))); intro t9 k9)
  k_steps
  exact end0 hret (by k_asm) (by k_asm) (fun p hp => List.mem_cons_of_mem _ hp) ⟨_, rfl⟩

/-- the places of a vector's widest numeral -/
def dwid (n : Nat) (sg : Bool) : Nat := if sg = true then (numL ((1 * 2 ^ (n - 1) : Nat) : Int)).length + 1 else (numL ((2 ^ n - 1 : Nat) : Int)).length
theorem sm_nat {p n : Nat} (h : p ≤ 2 ^ n) (hn : n ≤ 40) : Sm18 (p : Int) := by
  refine ⟨?_⟩
  have h2 := two40 hn
  have e1 : (2 : Nat) ^ 40 = 1099511627776 := by decide +kernel
  have e2 : (10 : Nat) ^ 18 = 1000000000000000000 := by decide +kernel
  rw [e1] at h2
  rw [e2]
  omega
theorem sm_half {n : Nat} (hn : n ≤ 40) : Sm18 ((1 * 2 ^ (n - 1) : Nat) : Int) := sm_nat (by rw [Nat.one_mul]; exact Nat.pow_le_pow_right (by decide) (Nat.sub_le n 1)) hn
theorem sm_mask {n : Nat} (hn : n ≤ 40) : Sm18 ((2 ^ n - 1 : Nat) : Int) := sm_nat (Nat.sub_le _ _) hn
theorem dwid_le {n : Nat} {sg : Bool} (hn : n ≤ 40) : dwid n sg ≤ 101 := by
  unfold dwid
  have h1 := numL_len (sm_half hn)
  have h2 := numL_len (sm_mask hn)
  split <;> omega

set_option maxHeartbeats 1000000 in
theorem decimal_width_c {w : World} {news : List (Addr × Obj)} {n : Nat} {t : Tok} {sg : Bool} (h0 : 0 < n) (hn : n ≤ 40) :
    Ct0 w 126 3 news [.int (n : Int) t, .bool sg] (fun r => ∃ u, r = .int ((dwid n sg : Nat) : Int) u) := by
  w_top off
  k_with_none
  k_with "mem" => first | (with_reducible assumption) | exact List.Mem.head _ | (refine List.mem_cons_of_mem _ ?_; k_extra "mem") | (refine List.mem_append.mpr (.inl ?_); k_extra "mem") | (refine List.mem_append.mpr (.inr ?_); k_extra "mem")
  unfold Ct0
  k_fill
  intro fp9 loose9 mean9 mg9 mb9 dp un gd9 cn9 cs9 fa9 ccd9 cl9 outer9 A9 base9 hz9 L9 m9 s9 Q9 E9 B9 F9 X9 N9 T9 hk9 hd9 hu9 hret
  refine wpAny_call ?_
  k_dflt cell_enter
  k_with "mine call" => (k_dflt (refine' Ct0.use (mask_c ?h) ?u1 ?u2 ?u3 ?u4 ?u5 ?uK ?ud ?uu ?_; (case u1 => k_asm); (case u2 => k_asm); (case u3 => k_asm); (case u4 => k_asm); (case u5 => k_asm); (case uK => first | exact rfl | assumption); (case ud => ktr_room); (case uu => ktr_units); (case h => omega); intro r9 h9 tk9 F9 N9 ho9; (first | (obtain ⟨t91, t92, t93, c9, e9⟩ := ho9; subst e9) | (obtain ⟨t9, e9⟩ := ho9; subst e9) | subst ho9 | skip); (try dsimp only); (try k_sweep); (try k_fold)))
  k_with "mine call" => (k_dflt (refine' Ct0.use (whole_text_c ?h) ?u1 ?u2 ?u3 ?u4 ?u5 ?uK ?ud ?uu ?_; (case u1 => k_asm); (case u2 => k_asm); (case u3 => k_asm); (case u4 => k_asm); (case u5 => k_asm); (case uK => first | exact rfl | assumption); (case ud => ktr_room); (case uu => ktr_units); (case h => first | exact sm_half (by assumption) | exact sm_mask (by assumption)); intro r9 h9 tk9 F9 N9 ho9; (first | (obtain ⟨t91, t92, t93, c9, e9⟩ := ho9; subst e9) | (obtain ⟨t9, e9⟩ := ho9; subst e9) | subst ho9 | skip); (try dsimp only); (try k_sweep); (try k_fold)))
  k_with "call builtin:len" => (k_dflt (refine' r_len ?hx ?hl ?_; (case hx => with_reducible rfl); (case hl => exact Nat.le_trans (numL_len (by first | exact sm_half (by assumption) | exact sm_mask (by assumption))) (by decide))); intro t9 tk9)
  k_steps
  all_goals refine end0 hret (by k_asm) (by k_asm) (fun p hp => hp) ⟨_, congrArg (Value.int · _) ?_⟩
  · unfold dwid; rw [if_pos (by assumption)]
  · unfold dwid; rw [if_neg (by simp_all)]

/-- a text without its leading noughts, one sign is kept -/
noncomputable def strip0 : List Nat → List Nat
  | [] => []
  | [c] => [c]
  | c :: d :: r => if c = 48 then strip0 (d :: r) else c :: d :: r
structure ZInv (l : List Nat) (st : Int) : Prop where
  it : ∃ i : Nat, st = (i : Int) ∧ strip0 l = strip0 (l.drop i) ∧ (i = 0 ∨ i < l.length)
theorem ZInv.start {l : List Nat} : ZInv l 0 := ⟨0, rfl, by simp, .inl rfl⟩
theorem ZInv.nonneg {l : List Nat} {st : Int} (Z : ZInv l st) : 0 ≤ st := by
  obtain ⟨i, h, _⟩ := Z.it
  omega
theorem drop_two {l : List Nat} {i : Nat} (h : i + 1 < l.length) : ∃ d r, l.drop i = l[i] :: d :: r ∧ l.drop (i + 1) = d :: r := by
  have h1 : l.drop i = l[i] :: l.drop (i + 1) := List.drop_eq_getElem_cons (by omega)
  have h2 : l.drop (i + 1) = l[i + 1] :: l.drop (i + 1 + 1) := List.drop_eq_getElem_cons (by omega)
  exact ⟨l[i + 1], l.drop (i + 1 + 1), by rw [h1, h2], h2⟩
theorem ZInv.step {l : List Nat} {i c : Nat} (Z : ZInv l (i : Int)) (h : (i : Int) < (l.length : Int) - 1) (hc : l[i]? = some c) (h0 : (S [c] == Str.ofString "0") = true) : ZInv l ((i + 1 : Nat) : Int) := by
  obtain ⟨j, hj, h1, h2⟩ := Z.it
  have e : j = i := by omega
  subst e
  refine ⟨j + 1, rfl, ?_, .inr (by omega)⟩
  obtain ⟨d, r, e1, e2⟩ := drop_two (l := l) (i := j) (by omega)
  rw [h1, e1, e2, strip0]
  have e3 : l[j] = c := by
    rw [List.getElem?_eq_getElem (by omega)] at hc
    exact Option.some.inj hc
  have e4 : c = 48 := by
    have := eq_of_beq h0
    rw [show Str.ofString "0" = S [48] from by decide +kernel] at this
    have h5 := congrArg (fun x : Str => x.cps.toList) this
    simpa using h5
  rw [e3, if_pos e4]
theorem ZInv.done1 {l : List Nat} {i : Nat} (Z : ZInv l (i : Int)) (h : ¬ (i : Int) < (l.length : Int) - 1) : S (l.drop i) = S (strip0 l) := by
  obtain ⟨j, hj, h1, h2⟩ := Z.it
  have e : j = i := by omega
  subst e
  rw [h1]
  congr 2
  have hl : (l.drop j).length ≤ 1 := by rw [List.length_drop]; omega
  match hd : l.drop j, hl with
  | [], _ => rfl
  | [c], _ => rfl
theorem ZInv.done2 {l : List Nat} {i c : Nat} (Z : ZInv l (i : Int)) (h : (i : Int) < (l.length : Int) - 1) (hc : l[i]? = some c) (h0 : (S [c] == Str.ofString "0") = false) : S (l.drop i) = S (strip0 l) := by
  obtain ⟨j, hj, h1, h2⟩ := Z.it
  have e : j = i := by omega
  subst e
  rw [h1]
  congr 2
  obtain ⟨d, r, e1, e2⟩ := drop_two (l := l) (i := j) (by omega)
  have e3 : l[j] = c := by
    rw [List.getElem?_eq_getElem (by omega)] at hc
    exact Option.some.inj hc
  have e4 : c ≠ 48 := by
    intro q
    subst q
    rw [show (S [48] == Str.ofString "0") = true from by decide +kernel] at h0
    cases h0
  rw [e1, strip0, e3, if_neg e4]
theorem get_lt {l : List Nat} {i : Nat} (h : (i : Int) < (l.length : Int) - 1) : l[i]? = some (l.getD i 0) := by
  have hi : i < l.length := by omega
  simp [List.getD, hi]

set_option maxHeartbeats 1000000 in
theorem without_zeros_c {w : World} {news : List (Addr × Obj)} {l : List Nat} {t : Tok} (hl : l.length ≤ 1000) :
    Ct0 w 133 1 news [.str (S l) t] (fun r => ∃ u, r = .str (S (strip0 l)) u) := by
  w_top off
  k_with_none
  k_with "mem" => first | (with_reducible assumption) | exact List.Mem.head _ | (refine List.mem_cons_of_mem _ ?_; k_extra "mem") | (refine List.mem_append.mpr (.inl ?_); k_extra "mem") | (refine List.mem_append.mpr (.inr ?_); k_extra "mem")
  unfold Ct0
  k_fill
  intro fp9 loose9 mean9 mg9 mb9 dp un gd9 cn9 cs9 fa9 ccd9 cl9 outer9 A9 base9 hz9 L9 m9 s9 Q9 E9 B9 F9 X9 N9 T9 hk9 hd9 hu9 hret
  refine wpAny_call ?_
  k_dflt cell_enter
  k_with "call builtin:len" => (k_dflt (refine' r_len ?hx ?hl ?_; (case hx => with_reducible rfl); (case hl => omega)); intro t9 tk9)
  k_with "exec While BoolOp cons nil" => (k_while (fun _ st => ZInv l st) (fun _ st => ((l.length : Int) - st).toNat) "start"; (rename ZInv _ _ => h0); obtain ⟨i9, e9⟩ := Int.eq_ofNat_of_zero_le (ZInv.nonneg h0); subst e9)
  k_with "facts" => exact True.intro
  k_with "state" => first | exact ZInv.start | exact ZInv.step (by assumption) (by assumption) (get_lt (by assumption)) (by assumption)
  k_with "subscriptTail Name Name str int" => (k_dflt (refine' str_item ?hx ?hk (get_lt ?hi) ?hl ?_; (case hx => with_reducible rfl); (case hk => with_reducible rfl); (case hi => assumption); (case hl => omega)); intro t9 tk9)
  k_steps
  all_goals refine end0 hret (by k_asm) (by k_asm) (fun p hp => hp) ⟨_, congrArg (Value.str · _) ?_⟩
  · rw [sl_from]; exact ZInv.done2 h0 (by assumption) (get_lt (by assumption)) (by assumption)
  · rw [sl_from]; exact ZInv.done1 h0 (by assumption)
theorem strip0_len : ∀ l : List Nat, (strip0 l).length ≤ l.length
  | [] => Nat.le_refl _
  | [_] => Nat.le_refl _
  | c :: d :: r => by
    rw [strip0]
    split
    · have := strip0_len (d :: r)
      simp only [List.length_cons] at *
      omega
    · exact Nat.le_refl _

/-- the digits of a vector by its letter -/
noncomputable def kindL (k n a b : Nat) (sg : Bool) : List Nat := if k = 100 then decL n a b sg else if k = 98 then signs a b n else if k = 111 then digits 3 n n a b else digits 4 n n a b
noncomputable def paddedL (k n a b : Nat) (sg mn : Bool) : List Nat := if k = 100 then (if mn = true then decL n a b sg else padL 32 (dwid n sg : Nat) (decL n a b sg)) else if mn = true then strip0 (kindL k n a b sg) else kindL k n a b sg
theorem kindL_len {k n a b : Nat} {sg : Bool} (ha : Small a) (hn : n ≤ 40) : (kindL k n a b sg).length ≤ 100 := by
  unfold kindL
  split
  · exact decL_len ha hn
  · split
    · rw [signs_len]; omega
    · split
      · exact Nat.le_trans (digits_len 3 (by decide) _ _ _ _) (by omega)
      · exact Nat.le_trans (digits_len 4 (by decide) _ _ _ _) (by omega)

set_option maxHeartbeats 2000000 in
theorem padded_c {w : World} {news : List (Addr × Obj)} {D : Addr} {n a b : Nat} {t1 t2 t3 t4 : Tok} {c k : Nat} {sg mn : Bool} (hD : (D, vecO n a b t1 t2 t3 c) ∈ news) (h0 : 0 < n) (hn : n ≤ 40) (ha : Small a) (hb : Small b) (hk : k = 100 ∨ k = 98 ∨ k = 111 ∨ k = 104) :
    Ct0 w 140 6 news [.str (S [k]) t4, .ref D, .bool sg, .bool mn] (fun r => ∃ u, r = .str (S (paddedL k n a b sg mn)) u) := by
  rcases hk with rfl | rfl | rfl | rfl
  · w_top off
    k_with_none
    k_with "mem" => first | (with_reducible assumption) | exact List.Mem.head _ | (refine List.mem_cons_of_mem _ ?_; k_extra "mem") | (refine List.mem_append.mpr (.inl ?_); k_extra "mem") | (refine List.mem_append.mpr (.inr ?_); k_extra "mem")
    unfold Ct0
    k_fill
    intro fp9 loose9 mean9 mg9 mb9 dp un gd9 cn9 cs9 fa9 ccd9 cl9 outer9 A9 base9 hz9 L9 m9 s9 Q9 E9 B9 F9 X9 N9 T9 hk9 hd9 hu9 hret
    refine wpAny_call ?_
    k_dflt cell_enter
    k_with "mine call" => (k_dflt (refine' Ct0.use (decimal_width_c ?h0 ?hn) ?u1 ?u2 ?u3 ?u4 ?u5 ?uK ?ud ?uu ?_; (case u1 => k_asm); (case u2 => k_asm); (case u3 => k_asm); (case u4 => k_asm); (case u5 => k_asm); (case uK => first | exact rfl | assumption); (case ud => ktr_room); (case uu => ktr_units); (case h0 => assumption); (case hn => assumption); intro r9 h9 tk9 F9 N9 ho9; (first | (obtain ⟨t91, t92, t93, c9, e9⟩ := ho9; subst e9) | (obtain ⟨t9, e9⟩ := ho9; subst e9) | subst ho9 | skip); (try dsimp only); (try k_sweep); (try k_fold)))
    k_with "mine call" => (k_dflt (refine' Ct0.use (decimal_digits_c ?hD ?h0 ?hn ?ha) ?u1 ?u2 ?u3 ?u4 ?u5 ?uK ?ud ?uu ?_; (case u1 => k_asm); (case u2 => k_asm); (case u3 => k_asm); (case u4 => k_asm); (case u5 => k_asm); (case uK => first | exact rfl | assumption); (case ud => ktr_room); (case uu => ktr_units); (case hD => k_extra "mem"); (case h0 => assumption); (case hn => assumption); (case ha => assumption); intro r9 h9 tk9 F9 N9 ho9; (first | (obtain ⟨t91, t92, t93, c9, e9⟩ := ho9; subst e9) | (obtain ⟨t9, e9⟩ := ho9; subst e9) | subst ho9 | skip); (try dsimp only); (try k_sweep); (try k_fold)))
    k_with "call builtin:str.rjust" => (k_dflt (refine' r_rjust ?hx ?h1 ?h2 ?_; (case hx => with_reducible rfl); (case h1 => omega); (case h2 => exact Int.le_trans (Int.ofNat_le.mpr (dwid_le (by assumption))) (by decide))); intro t9 tk9)
    k_steps
    all_goals refine end0 hret (by k_asm) (by k_asm) (fun p hp => hp) ⟨_, congrArg (fun l => Value.str (S l) _) ?_⟩
    · unfold paddedL; rw [if_pos rfl, if_pos (by assumption)]
    · unfold paddedL; rw [if_pos rfl, if_neg (by simp_all)]
  · w_top off
    k_with_none
    k_with "mem" => first | (with_reducible assumption) | exact List.Mem.head _ | (refine List.mem_cons_of_mem _ ?_; k_extra "mem") | (refine List.mem_append.mpr (.inl ?_); k_extra "mem") | (refine List.mem_append.mpr (.inr ?_); k_extra "mem")
    unfold Ct0
    k_fill
    intro fp9 loose9 mean9 mg9 mb9 dp un gd9 cn9 cs9 fa9 ccd9 cl9 outer9 A9 base9 hz9 L9 m9 s9 Q9 E9 B9 F9 X9 N9 T9 hk9 hd9 hu9 hret
    refine wpAny_call ?_
    k_dflt cell_enter
    k_with "mine call" => (k_dflt (refine' Ct0.use (binary_digits_c ?hD ?hn) ?u1 ?u2 ?u3 ?u4 ?u5 ?uK ?ud ?uu ?_; (case u1 => k_asm); (case u2 => k_asm); (case u3 => k_asm); (case u4 => k_asm); (case u5 => k_asm); (case uK => first | exact rfl | assumption); (case ud => ktr_room); (case uu => ktr_units); (case hD => k_extra "mem"); (case hn => assumption); intro r9 h9 tk9 F9 N9 ho9; (first | (obtain ⟨t91, t92, t93, c9, e9⟩ := ho9; subst e9) | (obtain ⟨t9, e9⟩ := ho9; subst e9) | subst ho9 | skip); (try dsimp only); (try k_sweep); (try k_fold)))
    k_with "mine call" => (k_dflt (refine' Ct0.use (without_zeros_c ?hl) ?u1 ?u2 ?u3 ?u4 ?u5 ?uK ?ud ?uu ?_; (case u1 => k_asm); (case u2 => k_asm); (case u3 => k_asm); (case u4 => k_asm); (case u5 => k_asm); (case uK => first | exact rfl | assumption); (case ud => ktr_room); (case uu => ktr_units); (case hl => exact Nat.le_trans (kindL_len (k := 98) (sg := sg) (by assumption) (by assumption)) (by decide)); intro r9 h9 tk9 F9 N9 ho9; (first | (obtain ⟨t91, t92, t93, c9, e9⟩ := ho9; subst e9) | (obtain ⟨t9, e9⟩ := ho9; subst e9) | subst ho9 | skip); (try dsimp only); (try k_sweep); (try k_fold)))
    k_steps
    all_goals refine end0 hret (by k_asm) (by k_asm) (fun p hp => hp) ⟨_, congrArg (fun l => Value.str (S l) _) ?_⟩
    · unfold paddedL; rw [if_neg (by decide), if_pos (by assumption)]; rfl
    · unfold paddedL; rw [if_neg (by decide), if_neg (by simp_all)]; rfl
  · w_top off
    k_with_none
    k_with "mem" => first | (with_reducible assumption) | exact List.Mem.head _ | (refine List.mem_cons_of_mem _ ?_; k_extra "mem") | (refine List.mem_append.mpr (.inl ?_); k_extra "mem") | (refine List.mem_append.mpr (.inr ?_); k_extra "mem")
    unfold Ct0
    k_fill
    intro fp9 loose9 mean9 mg9 mb9 dp un gd9 cn9 cs9 fa9 ccd9 cl9 outer9 A9 base9 hz9 L9 m9 s9 Q9 E9 B9 F9 X9 N9 T9 hk9 hd9 hu9 hret
    refine wpAny_call ?_
    k_dflt cell_enter
    k_with "mine call" => (k_dflt (refine' Ct0.use (octal_digits_c ?hD ?hn ?ha ?hb) ?u1 ?u2 ?u3 ?u4 ?u5 ?uK ?ud ?uu ?_; (case u1 => k_asm); (case u2 => k_asm); (case u3 => k_asm); (case u4 => k_asm); (case u5 => k_asm); (case uK => first | exact rfl | assumption); (case ud => ktr_room); (case uu => ktr_units); (case hD => k_extra "mem"); (case hn => assumption); (case ha => assumption); (case hb => assumption); intro r9 h9 tk9 F9 N9 ho9; (first | (obtain ⟨t91, t92, t93, c9, e9⟩ := ho9; subst e9) | (obtain ⟨t9, e9⟩ := ho9; subst e9) | subst ho9 | skip); (try dsimp only); (try k_sweep); (try k_fold)))
    k_with "mine call" => (k_dflt (refine' Ct0.use (without_zeros_c ?hl) ?u1 ?u2 ?u3 ?u4 ?u5 ?uK ?ud ?uu ?_; (case u1 => k_asm); (case u2 => k_asm); (case u3 => k_asm); (case u4 => k_asm); (case u5 => k_asm); (case uK => first | exact rfl | assumption); (case ud => ktr_room); (case uu => ktr_units); (case hl => exact Nat.le_trans (kindL_len (k := 111) (sg := sg) (by assumption) (by assumption)) (by decide)); intro r9 h9 tk9 F9 N9 ho9; (first | (obtain ⟨t91, t92, t93, c9, e9⟩ := ho9; subst e9) | (obtain ⟨t9, e9⟩ := ho9; subst e9) | subst ho9 | skip); (try dsimp only); (try k_sweep); (try k_fold)))
    k_steps
    all_goals refine end0 hret (by k_asm) (by k_asm) (fun p hp => hp) ⟨_, congrArg (fun l => Value.str (S l) _) ?_⟩
    · unfold paddedL; rw [if_neg (by decide), if_pos (by assumption)]; rfl
    · unfold paddedL; rw [if_neg (by decide), if_neg (by simp_all)]; rfl
  · w_top off
    k_with_none
    k_with "mem" => first | (with_reducible assumption) | exact List.Mem.head _ | (refine List.mem_cons_of_mem _ ?_; k_extra "mem") | (refine List.mem_append.mpr (.inl ?_); k_extra "mem") | (refine List.mem_append.mpr (.inr ?_); k_extra "mem")
    unfold Ct0
    k_fill
    intro fp9 loose9 mean9 mg9 mb9 dp un gd9 cn9 cs9 fa9 ccd9 cl9 outer9 A9 base9 hz9 L9 m9 s9 Q9 E9 B9 F9 X9 N9 T9 hk9 hd9 hu9 hret
    refine wpAny_call ?_
    k_dflt cell_enter
    k_with "mine call" => (k_dflt (refine' Ct0.use (hex_digits_c ?hD ?hn ?ha ?hb) ?u1 ?u2 ?u3 ?u4 ?u5 ?uK ?ud ?uu ?_; (case u1 => k_asm); (case u2 => k_asm); (case u3 => k_asm); (case u4 => k_asm); (case u5 => k_asm); (case uK => first | exact rfl | assumption); (case ud => ktr_room); (case uu => ktr_units); (case hD => k_extra "mem"); (case hn => assumption); (case ha => assumption); (case hb => assumption); intro r9 h9 tk9 F9 N9 ho9; (first | (obtain ⟨t91, t92, t93, c9, e9⟩ := ho9; subst e9) | (obtain ⟨t9, e9⟩ := ho9; subst e9) | subst ho9 | skip); (try dsimp only); (try k_sweep); (try k_fold)))
    k_with "mine call" => (k_dflt (refine' Ct0.use (without_zeros_c ?hl) ?u1 ?u2 ?u3 ?u4 ?u5 ?uK ?ud ?uu ?_; (case u1 => k_asm); (case u2 => k_asm); (case u3 => k_asm); (case u4 => k_asm); (case u5 => k_asm); (case uK => first | exact rfl | assumption); (case ud => ktr_room); (case uu => ktr_units); (case hl => exact Nat.le_trans (kindL_len (k := 104) (sg := sg) (by assumption) (by assumption)) (by decide)); intro r9 h9 tk9 F9 N9 ho9; (first | (obtain ⟨t91, t92, t93, c9, e9⟩ := ho9; subst e9) | (obtain ⟨t9, e9⟩ := ho9; subst e9) | subst ho9 | skip); (try dsimp only); (try k_sweep); (try k_fold)))
    k_steps
    all_goals refine end0 hret (by k_asm) (by k_asm) (fun p hp => hp) ⟨_, congrArg (fun l => Value.str (S l) _) ?_⟩
    · unfold paddedL; rw [if_neg (by decide), if_pos (by assumption)]; rfl
    · unfold paddedL; rw [if_neg (by decide), if_neg (by simp_all)]; rfl
theorem paddedL_len {k n a b : Nat} {sg mn : Bool} (ha : Small a) (hn : n ≤ 40) : (paddedL k n a b sg mn).length ≤ 300 := by
  have h1 := kindL_len (k := k) (b := b) (sg := sg) ha hn
  have h2 := decL_len (b := b) (sg := sg) ha hn
  have h3 := dwid_le (sg := sg) hn
  unfold paddedL
  split
  · split
    · omega
    · unfold padL
      rw [List.length_append, List.length_replicate]
      omega
  · split
    · exact Nat.le_trans (strip0_len _) (by omega)
    · omega

/-- the number of a text's octets -/
def tval (l : List Nat) : Nat := l.foldl (fun v c => v * 256 + c) 0
theorem tval_snoc (l : List Nat) (c : Nat) : tval (l ++ [c]) = tval l * 256 + c := by unfold tval; rw [List.foldl_append]; rfl
structure Oct (l : List Nat) : Prop where
  short : l.length ≤ 4
  all : ∀ c ∈ l, c < 256
theorem tval_aux : ∀ (l : List Nat) (v k : Nat), v < 256 ^ k → (∀ c ∈ l, c < 256) → l.foldl (fun v c => v * 256 + c) v < 256 ^ (k + l.length)
  | [], _, _, h, _ => h
  | c :: r, v, k, h, hl => by
    have h1 := hl c (.head _)
    have := tval_aux r (v * 256 + c) (k + 1) (by rw [Nat.pow_succ]; omega) (fun d hd => hl d (.tail _ hd))
    rw [List.foldl_cons, List.length_cons, show k + (r.length + 1) = k + 1 + r.length by omega]
    exact this
theorem tval_lt {l : List Nat} (h : Oct l) : tval l < 256 ^ l.length := by
  have := tval_aux l 0 0 (by decide) h.all
  rwa [Nat.zero_add] at this
theorem tval_small {l : List Nat} (h : Oct l) : tval l < 2 ^ 32 := Nat.lt_of_lt_of_le (tval_lt h) (Nat.le_trans (Nat.pow_le_pow_right (by decide) h.short) (by decide))
theorem tval_Small {l : List Nat} (h : Oct l) : Small (tval l) := ⟨Nat.lt_trans (tval_small h) (by decide)⟩
structure TInv (l : List Nat) (pre : List Int) (v : Int) : Prop where
  it : ∃ p q : List Nat, l = p ++ q ∧ pre = p.map (fun (c : Nat) => (c : Int)) ∧ v = ((tval p : Nat) : Int)
theorem codes_S (l : List Nat) : KStt.codes (S l) = l.map (fun (c : Nat) => (c : Int)) := by
  unfold KStt.codes
  simp
theorem map_cast_inj : ∀ {l p : List Nat}, l.map (fun (c : Nat) => (c : Int)) = p.map (fun (c : Nat) => (c : Int)) → l = p
  | [], [], _ => rfl
  | [], _ :: _, h => by cases h
  | _ :: _, [], h => by cases h
  | a :: r, b :: q, h => by
    rw [List.map_cons, List.map_cons] at h
    injection h with h1 h2
    rw [map_cast_inj h2, show a = b by omega]
theorem TInv.start {l : List Nat} : TInv l [] 0 := ⟨[], l, rfl, rfl, rfl⟩
theorem split_codes {l p q : List Nat} {pre post : List Int} {n : Nat} (e1 : l = p ++ q) (e2 : pre = p.map (fun (c : Nat) => (c : Int))) (h : KStt.codes (S l) = pre ++ (n : Int) :: post) : ∃ r, q = n :: r := by
  rw [codes_S, e1, List.map_append, e2] at h
  have h2 := List.append_cancel_left h
  cases q with
  | nil => cases h2
  | cons d r =>
    rw [List.map_cons] at h2
    injection h2 with h3 h4
    exact ⟨r, by rw [show d = n by omega]⟩
theorem TInv.step {l p q : List Nat} {pre post : List Int} {n : Nat} (O : Oct l) (e1 : l = p ++ q) (e2 : pre = p.map (fun (c : Nat) => (c : Int))) (h : KStt.codes (S l) = pre ++ (n : Int) :: post) : TInv l (pre ++ [(n : Int)]) ((tval p * 2 ^ 8 ||| (n &&& 255) : Nat) : Int) := by
  obtain ⟨r, rfl⟩ := split_codes e1 e2 h
  have hn : n < 256 := O.all n (by rw [e1]; simp)
  refine ⟨p ++ [n], r, by rw [e1]; simp, by rw [e2]; simp, ?_⟩
  rw [tval_snoc, show n &&& 255 = n % 256 from Nat.and_two_pow_sub_one_eq_mod n 8, Nat.mod_eq_of_lt hn]
  congr 1
  have := Nat.two_pow_add_eq_or_of_lt (i := 8) (b := n) hn (tval p)
  rw [Nat.mul_comm (tval p), ← this, Nat.mul_comm]
theorem TInv.done {l : List Nat} {v : Int} (T : TInv l (KStt.codes (S l)) v) : v = ((tval l : Nat) : Int) := by
  obtain ⟨p, q, e1, e2, e3⟩ := T.it
  rw [codes_S] at e2
  have : l = p := map_cast_inj e2
  rw [e3, this]
theorem Oct.pre {l p q : List Nat} (O : Oct l) (e : l = p ++ q) : Oct p := ⟨by have := O.short; rw [e, List.length_append] at this; omega, fun c hc => O.all c (by rw [e]; exact List.mem_append_left _ hc)⟩

theorem vecI_eq {x y z : Int} {w a b : Nat} {t1 t2 t3 : Tok} {c : Nat} (hx : x = (w : Int)) (hy : y = (a : Int)) (hz : z = (b : Int)) : ({ cls := .type "tuple", data := .seq #[.int x t1, .int y t2, .int z t3] c } : Obj) = vecO w a b t1 t2 t3 c := by
  subst hx hy hz; rfl

set_option maxHeartbeats 1000000 in
theorem text_vec_c {w : World} {news : List (Addr × Obj)} {l : List Nat} {t : Tok} (O : Oct l) :
    CtT w 147 1 news [.str (S l) t] (fun o => ∃ t1 t2 t3 c, o = vecO (8 * max l.length 1) (tval l) 0 t1 t2 t3 c) := by
  w_top off
  k_with_none
  k_with "mem" => first | (with_reducible assumption) | exact List.Mem.head _ | (refine List.mem_cons_of_mem _ ?_; k_extra "mem") | (refine List.mem_append.mpr (.inl ?_); k_extra "mem") | (refine List.mem_append.mpr (.inr ?_); k_extra "mem")
  unfold CtT
  k_fill
  intro fp9 loose9 mean9 mg9 mb9 dp un gd9 cn9 cs9 fa9 ccd9 cl9 outer9 A9 base9 hz9 L9 m9 s9 Q9 E9 B9 F9 X9 N9 T9 hk9 hd9 hu9 hret
  refine wpAny_call ?_
  k_dflt cell_enter
  have hl9 := O.short
  k_with "pyIter str" => (k_state (fun pre v => TInv l pre v) "value" <;> ((rename TInv _ _ _ => h0); first | (have h1 := TInv.done h0; subst h1; clear h0) | (obtain ⟨p9, q9, e91, e92, e93⟩ := h0.it; subst e93; clear h0)))
  k_with "small" => exact Nat.lt_trans (tval_small (Oct.pre O (by assumption))) (by decide)
  k_with "call builtin:len" => (k_dflt (refine' r_len ?hx ?hl ?_; (case hx => with_reducible rfl); (case hl => omega)); intro t9 tk9)
  k_with "facts" => exact True.intro
  k_with "state" => first | exact TInv.start | exact TInv.step (by assumption) (by assumption) (by assumption) (by assumption)
  k_steps
  exact hret _ _ _ _ (by k_asm) (by k_asm) (by assumption) ⟨_, _, _, _, vecI_eq (by omega) rfl rfl⟩

local macro_rules | `(tactic| walk_at "compareOp Eq str str") => `(tactic| k_extra "compareOp Eq str str")
set_option maxHeartbeats 1000000 in
theorem filled_c {w : World} {news : List (Addr × Obj)} {l : List Nat} {wd us : Int} {t1 t2 t3 : Tok} (h1 : -1 ≤ wd) (h2 : wd ≤ 100) (h3 : 0 ≤ us) (h4 : us ≤ 100) :
    Ct0 w 154 1 news [.str (S l) t1, .int wd t2, .int us t3] (fun r => ∃ u, r = .str (S (padL 32 (if wd < 0 then us else wd) l)) u) := by
  w_top off
  k_with_none
  k_with "mem" => first | (with_reducible assumption) | exact List.Mem.head _ | (refine List.mem_cons_of_mem _ ?_; k_extra "mem") | (refine List.mem_append.mpr (.inl ?_); k_extra "mem") | (refine List.mem_append.mpr (.inr ?_); k_extra "mem")
  unfold Ct0
  k_fill
  intro fp9 loose9 mean9 mg9 mb9 dp un gd9 cn9 cs9 fa9 ccd9 cl9 outer9 A9 base9 hz9 L9 m9 s9 Q9 E9 B9 F9 X9 N9 T9 hk9 hd9 hu9 hret
  refine wpAny_call ?_
  k_dflt cell_enter
  k_with "call builtin:str.rjust" => (k_dflt (refine' r_rjust ?hx ?h1 ?h2 ?_; (case hx => with_reducible rfl); (case h1 => omega); (case h2 => omega)); intro t9 tk9)
  k_steps
  all_goals refine end0 hret (by k_asm) (by k_asm) (fun p hp => hp) ⟨_, congrArg (fun l => Value.str (S l) _) ?_⟩
  · rw [if_pos (by assumption)]
  · rw [if_neg (by assumption)]

/-- a bundle of a vector and its sign, as the program holds it -/
abbrev argO (D : Addr) (sg : Bool) (c : Nat) : Obj := { cls := .type "tuple", data := .seq #[.ref D, .bool sg] c }
theorem padL_id (c : Nat) (l : List Nat) : padL c (l.length : Nat) l = l := by
  unfold padL
  rw [toNat_c, Nat.sub_self]
  rfl

set_option maxHeartbeats 1000000 in
theorem string_arg_text_c {w : World} {news : List (Addr × Obj)} {l : List Nat} {wd : Int} {t1 t2 : Tok} (hl : l.length ≤ 100) (h1 : -1 ≤ wd) (h2 : wd ≤ 100) :
    Ct0 w 161 3 news [.str (S l) t1, .int wd t2] (fun r => ∃ u, r = .str (S (padL 32 (if wd < 0 then (l.length : Nat) else wd) l)) u) := by
  w_top off
  k_with_none
  k_with "mem" => first | (with_reducible assumption) | exact List.Mem.head _ | (refine List.mem_cons_of_mem _ ?_; k_extra "mem") | (refine List.mem_append.mpr (.inl ?_); k_extra "mem") | (refine List.mem_append.mpr (.inr ?_); k_extra "mem")
  unfold Ct0
  k_fill
  intro fp9 loose9 mean9 mg9 mb9 dp un gd9 cn9 cs9 fa9 ccd9 cl9 outer9 A9 base9 hz9 L9 m9 s9 Q9 E9 B9 F9 X9 N9 T9 hk9 hd9 hu9 hret
  refine wpAny_call ?_
  k_dflt cell_enter
  k_with "call builtin:len" => (k_dflt (refine' r_len ?hx ?hl ?_; (case hx => with_reducible rfl); (case hl => omega)); intro t9 tk9)
  k_with "mine call" => (k_dflt (refine' Ct0.use (filled_c ?h1 ?h2 ?h3 ?h4) ?u1 ?u2 ?u3 ?u4 ?u5 ?uK ?ud ?uu ?_; (case u1 => k_asm); (case u2 => k_asm); (case u3 => k_asm); (case u4 => k_asm); (case u5 => k_asm); (case uK => first | exact rfl | assumption); (case ud => ktr_room); (case uu => ktr_units); (case h1 => omega); (case h2 => omega); (case h3 => omega); (case h4 => omega); intro r9 h9 tk9 F9 N9 ho9; (first | (obtain ⟨t91, t92, t93, c9, e9⟩ := ho9; subst e9) | (obtain ⟨t9, e9⟩ := ho9; subst e9) | subst ho9 | skip); (try dsimp only); (try k_sweep); (try k_fold)))
  k_steps
  exact end0 hret (by k_asm) (by k_asm) (fun p hp => hp) ⟨_, rfl⟩

theorem fd8 (n : Nat) : ((n : Int) + 7).fdiv 8 = (((n + 7) / 8 : Nat) : Int) := by
  rw [Int.fdiv_eq_ediv_of_nonneg _ (by decide)]
  omega

theorem fd8_ge (n : Nat) : 0 ≤ ((n : Int) + 7).fdiv 8 := by rw [fd8]; omega
theorem fd8_le {n : Nat} (h : n ≤ 40) : ((n : Int) + 7).fdiv 8 ≤ 100 := by rw [fd8]; omega

set_option maxHeartbeats 1000000 in
theorem string_arg_vec_c {w : World} {news : List (Addr × Obj)} {D R : Addr} {n a b : Nat} {t1 t2 t3 : Tok} {c c2 : Nat} {sg : Bool} {wd : Int} {t4 : Tok} (hR : (R, argO D sg c2) ∈ news) (hD : (D, vecO n a b t1 t2 t3 c) ∈ news) (hn : n ≤ 40) (ha : Small a) (h1 : -1 ≤ wd) (h2 : wd ≤ 100) :
    Ct0 w 161 3 news [.ref R, .int wd t4] (fun r => ∃ u, r = .str (S (padL 32 (if wd < 0 then (((n + 7) / 8 : Nat) : Int) else wd) (octs 8 (known n a b)))) u) := by
  w_top off
  k_with_none
  k_with "mem" => first | (with_reducible assumption) | exact List.Mem.head _ | (refine List.mem_cons_of_mem _ ?_; k_extra "mem") | (refine List.mem_append.mpr (.inl ?_); k_extra "mem") | (refine List.mem_append.mpr (.inr ?_); k_extra "mem")
  unfold Ct0
  k_fill
  intro fp9 loose9 mean9 mg9 mb9 dp un gd9 cn9 cs9 fa9 ccd9 cl9 outer9 A9 base9 hz9 L9 m9 s9 Q9 E9 B9 F9 X9 N9 T9 hk9 hd9 hu9 hret
  refine wpAny_call ?_
  k_dflt cell_enter
  k_with "mine call" => (k_dflt (refine' Ct0.use (filled_c ?h1 ?h2 ?h3 ?h4) ?u1 ?u2 ?u3 ?u4 ?u5 ?uK ?ud ?uu ?_; (case u1 => k_asm); (case u2 => k_asm); (case u3 => k_asm); (case u4 => k_asm); (case u5 => k_asm); (case uK => first | exact rfl | assumption); (case ud => ktr_room); (case uu => ktr_units); (case h1 => omega); (case h2 => omega); (case h3 => exact fd8_ge _); (case h4 => exact fd8_le (by assumption)); intro r9 h9 tk9 F9 N9 ho9; (first | (obtain ⟨t91, t92, t93, c9, e9⟩ := ho9; subst e9) | (obtain ⟨t9, e9⟩ := ho9; subst e9) | subst ho9 | skip); (try dsimp only); (try k_sweep); (try k_fold)))
  k_with "mine call" => (k_dflt (refine' Ct0.use (string_text_c ?hD ?hn ?ha) ?u1 ?u2 ?u3 ?u4 ?u5 ?uK ?ud ?uu ?_; (case u1 => k_asm); (case u2 => k_asm); (case u3 => k_asm); (case u4 => k_asm); (case u5 => k_asm); (case uK => first | exact rfl | assumption); (case ud => ktr_room); (case uu => ktr_units); (case hD => k_extra "mem"); (case hn => assumption); (case ha => assumption); intro r9 h9 tk9 F9 N9 ho9; (first | (obtain ⟨t91, t92, t93, c9, e9⟩ := ho9; subst e9) | (obtain ⟨t9, e9⟩ := ho9; subst e9) | subst ho9 | skip); (try dsimp only); (try k_sweep); (try k_fold)))
  k_steps
  exact end0 hret (by k_asm) (by k_asm) (fun p hp => hp) ⟨_, congrArg (fun i => Value.str (S (padL 32 (if wd < 0 then i else wd) (octs 8 (known n a b)))) _) (fd8 n)⟩

noncomputable def numArgL (k n a b : Nat) (sg : Bool) (wd : Int) : List Nat := if wd < 0 then paddedL k n a b sg false else padL (if k = 100 then 32 else 48) wd (paddedL k n a b sg true)

set_option maxHeartbeats 2000000 in
theorem number_arg_c {w : World} {news : List (Addr × Obj)} {D : Addr} {n a b : Nat} {t1 t2 t3 t4 t5 : Tok} {c k : Nat} {sg : Bool} {wd : Int} (hD : (D, vecO n a b t1 t2 t3 c) ∈ news) (h0 : 0 < n) (hn : n ≤ 40) (ha : Small a) (hb : Small b) (hk : k = 100 ∨ k = 98 ∨ k = 111 ∨ k = 104) (h1 : -1 ≤ wd) (h2 : wd ≤ 100) :
    Ct0 w 168 7 news [.str (S [k]) t4, .ref D, .bool sg, .int wd t5] (fun r => ∃ u, r = .str (S (numArgL k n a b sg wd)) u) := by
  rcases hk with rfl | hk
  · w_top off
    k_with_none
    k_with "mem" => first | (with_reducible assumption) | exact List.Mem.head _ | (refine List.mem_cons_of_mem _ ?_; k_extra "mem") | (refine List.mem_append.mpr (.inl ?_); k_extra "mem") | (refine List.mem_append.mpr (.inr ?_); k_extra "mem")
    unfold Ct0
    k_fill
    intro fp9 loose9 mean9 mg9 mb9 dp un gd9 cn9 cs9 fa9 ccd9 cl9 outer9 A9 base9 hz9 L9 m9 s9 Q9 E9 B9 F9 X9 N9 T9 hk9 hd9 hu9 hret
    refine wpAny_call ?_
    k_dflt cell_enter
    k_with "mine call" => (k_dflt (refine' Ct0.use (padded_c (k := 100) ?hD ?h0 ?hn ?ha ?hb ?hk) ?u1 ?u2 ?u3 ?u4 ?u5 ?uK ?ud ?uu ?_; (case u1 => k_asm); (case u2 => k_asm); (case u3 => k_asm); (case u4 => k_asm); (case u5 => k_asm); (case uK => first | exact rfl | assumption); (case ud => ktr_room); (case uu => ktr_units); (case hD => k_extra "mem"); (case h0 => assumption); (case hn => assumption); (case ha => assumption); (case hb => assumption); (case hk => decide); intro r9 h9 tk9 F9 N9 ho9; (first | (obtain ⟨t91, t92, t93, c9, e9⟩ := ho9; subst e9) | (obtain ⟨t9, e9⟩ := ho9; subst e9) | subst ho9 | skip); (try dsimp only); (try k_sweep); (try k_fold)))
    k_with "call builtin:str.rjust" => first
      | (k_dflt (refine' r_rjust ?hx ?h1 ?h2 ?_; (case hx => with_reducible rfl); (case h1 => omega); (case h2 => omega)); intro t9 tk9)
      | (k_dflt (refine' r_rjustF (c := 48) ?hx ?hf ?h1 ?h2 ?_; (case hx => with_reducible rfl); (case hf => decide +kernel); (case h1 => omega); (case h2 => omega)); intro t9 tk9)
    k_steps
    all_goals refine end0 hret (by k_asm) (by k_asm) (fun p hp => hp) ⟨_, congrArg (fun l => Value.str (S l) _) ?_⟩
    · unfold numArgL; rw [if_pos (by assumption)]
    · unfold numArgL; rw [if_neg (by assumption)]; rfl
  · have hk2 : k = 100 ∨ k = 98 ∨ k = 111 ∨ k = 104 := Or.inr hk
    have hk3 : k ≠ 100 := by rcases hk with rfl | rfl | rfl <;> decide
    have hno1 := no_d hk3
    w_top off
    k_with_none
    k_with "mem" => first | (with_reducible assumption) | exact List.Mem.head _ | (refine List.mem_cons_of_mem _ ?_; k_extra "mem") | (refine List.mem_append.mpr (.inl ?_); k_extra "mem") | (refine List.mem_append.mpr (.inr ?_); k_extra "mem")
    unfold Ct0
    k_fill
    intro fp9 loose9 mean9 mg9 mb9 dp un gd9 cn9 cs9 fa9 ccd9 cl9 outer9 A9 base9 hz9 L9 m9 s9 Q9 E9 B9 F9 X9 N9 T9 hk9 hd9 hu9 hret
    refine wpAny_call ?_
    k_dflt cell_enter
    k_with "compareOp Eq str str" => (k_dflt (refine eq_no ?kq ?_); (case kq => with_reducible exact hno1))
    k_with "mine call" => (k_dflt (refine' Ct0.use (padded_c (k := k) ?hD ?h0 ?hn ?ha ?hb ?hk) ?u1 ?u2 ?u3 ?u4 ?u5 ?uK ?ud ?uu ?_; (case u1 => k_asm); (case u2 => k_asm); (case u3 => k_asm); (case u4 => k_asm); (case u5 => k_asm); (case uK => first | exact rfl | assumption); (case ud => ktr_room); (case uu => ktr_units); (case hD => k_extra "mem"); (case h0 => assumption); (case hn => assumption); (case ha => assumption); (case hb => assumption); (case hk => exact hk2); intro r9 h9 tk9 F9 N9 ho9; (first | (obtain ⟨t91, t92, t93, c9, e9⟩ := ho9; subst e9) | (obtain ⟨t9, e9⟩ := ho9; subst e9) | subst ho9 | skip); (try dsimp only); (try k_sweep); (try k_fold)))
    k_with "call builtin:str.rjust" => first
      | (k_dflt (refine' r_rjust ?hx ?h1 ?h2 ?_; (case hx => with_reducible rfl); (case h1 => omega); (case h2 => omega)); intro t9 tk9)
      | (k_dflt (refine' r_rjustF (c := 48) ?hx ?hf ?h1 ?h2 ?_; (case hx => with_reducible rfl); (case hf => decide +kernel); (case h1 => omega); (case h2 => omega)); intro t9 tk9)
    k_steps
    all_goals refine end0 hret (by k_asm) (by k_asm) (fun p hp => hp) ⟨_, congrArg (fun l => Value.str (S l) _) ?_⟩
    · unfold numArgL; rw [if_pos (by assumption)]
    · unfold numArgL; rw [if_neg (by assumption), if_neg hk3]

def lowB (a b : Nat) : Nat := a &&& 255 &&& (255 ^^^ (b &&& 255))
noncomputable def bitsL (k n a b : Nat) (sg : Bool) (wd : Int) : List Nat := if k = 99 then padL 32 (if wd < 0 then 1 else wd) [lowB a b] else if k = 116 then padL 32 (if wd < 0 then 20 else wd) (decL n a b false) else numArgL (if k = 120 then 104 else k) n a b sg wd
noncomputable def oneVecL (k n a b : Nat) (sg : Bool) (wd : Int) : List Nat := if k = 115 then padL 32 (if wd < 0 then (((n + 7) / 8 : Nat) : Int) else wd) (octs 8 (known n a b)) else bitsL k n a b sg wd
noncomputable def oneTextL (k : Nat) (l : List Nat) (wd : Int) : List Nat := if k = 115 then padL 32 (if wd < 0 then (l.length : Nat) else wd) l else bitsL k (8 * max l.length 1) (tval l) 0 false wd
def Letter (k : Nat) : Prop := k = 98 ∨ k = 111 ∨ k = 100 ∨ k = 104 ∨ k = 120 ∨ k = 99 ∨ k = 115 ∨ k = 116
theorem letter_cases {k : Nat} (h : Letter k) : NumK k ∨ k = 120 ∨ k = 99 ∨ k = 115 ∨ k = 116 := by
  rcases h with rfl | rfl | rfl | rfl | rfl | rfl | rfl | rfl
  · exact .inl ⟨by decide⟩
  · exact .inl ⟨by decide⟩
  · exact .inl ⟨by decide⟩
  · exact .inl ⟨by decide⟩
  · exact .inr (.inl rfl)
  · exact .inr (.inr (.inl rfl))
  · exact .inr (.inr (.inr (.inl rfl)))
  · exact .inr (.inr (.inr (.inr rfl)))
theorem NumK.mem {k : Nat} (K : NumK k) : k = 100 ∨ k = 98 ∨ k = 111 ∨ k = 104 := by
  rcases K.it with rfl | rfl | rfl | rfl <;> decide
theorem one_num {k n a b : Nat} {sg : Bool} {wd : Int} (K : NumK k) : numArgL k n a b sg wd = oneVecL k n a b sg wd := by
  rcases K.it with rfl | rfl | rfl | rfl <;> rfl
theorem text_num {k : Nat} {l : List Nat} {wd : Int} (K : NumK k) : numArgL k (8 * max l.length 1) (tval l) 0 false wd = oneTextL k l wd := by
  rcases K.it with rfl | rfl | rfl | rfl <;> rfl
theorem lowB_le (a b : Nat) : lowB a b ≤ 1114111 := Nat.le_trans (Nat.le_trans Nat.and_le_left Nat.and_le_right) (by decide)

set_option maxHeartbeats 2000000 in
theorem one_arg_none_c {w : World} {news : List (Addr × Obj)} {x : Str} {wd : Int} {t4 t5 : Tok} :
    Ct0 w 175 9 news [.str x t4, .int wd t5, .none] (fun r => ∃ u, r = .str (S [32]) u) := by
  w_top off
  k_with_none
  k_with "mem" => first | (with_reducible assumption) | exact List.Mem.head _ | (refine List.mem_cons_of_mem _ ?_; k_extra "mem") | (refine List.mem_append.mpr (.inl ?_); k_extra "mem") | (refine List.mem_append.mpr (.inr ?_); k_extra "mem")
  unfold Ct0
  k_fill
  intro fp9 loose9 mean9 mg9 mb9 dp un gd9 cn9 cs9 fa9 ccd9 cl9 outer9 A9 base9 hz9 L9 m9 s9 Q9 E9 B9 F9 X9 N9 T9 hk9 hd9 hu9 hret
  refine wpAny_call ?_
  k_dflt cell_enter
  k_steps
  exact end0 hret (by k_asm) (by k_asm) (fun p hp => hp) ⟨_, congrArg (Value.str · _) (by decide +kernel)⟩

set_option maxHeartbeats 4000000 in
theorem one_arg_vec_c {w : World} {news : List (Addr × Obj)} {D R : Addr} {n a b : Nat} {t1 t2 t3 t4 t5 : Tok} {c c2 k : Nat} {sg : Bool} {wd : Int} (hR : (R, argO D sg c2) ∈ news) (hD : (D, vecO n a b t1 t2 t3 c) ∈ news) (h0 : 0 < n) (hn : n ≤ 40) (ha : Small a) (hb : Small b) (hk : Letter k) (h1 : -1 ≤ wd) (h2 : wd ≤ 100) :
    Ct0 w 175 9 news [.str (S [k]) t4, .int wd t5, .ref R] (fun r => ∃ u, r = .str (S (oneVecL k n a b sg wd)) u) := by
  rcases letter_cases hk with K | rfl | rfl | rfl | rfl
  · have hno1 := K.no_s
    have hno2 := K.no_c
    have hno3 := K.no_t
    have hno4 := K.no_x
    w_top off
    k_with_none
    k_with "mem" => first | (with_reducible assumption) | exact List.Mem.head _ | (refine List.mem_cons_of_mem _ ?_; k_extra "mem") | (refine List.mem_append.mpr (.inl ?_); k_extra "mem") | (refine List.mem_append.mpr (.inr ?_); k_extra "mem")
    unfold Ct0
    k_fill
    intro fp9 loose9 mean9 mg9 mb9 dp un gd9 cn9 cs9 fa9 ccd9 cl9 outer9 A9 base9 hz9 L9 m9 s9 Q9 E9 B9 F9 X9 N9 T9 hk9 hd9 hu9 hret
    refine wpAny_call ?_
    k_dflt cell_enter
    k_with "compareOp Eq str str" => (k_dflt (refine eq_no ?kq ?_); (case kq => first | with_reducible exact hno1 | with_reducible exact hno2 | with_reducible exact hno3 | with_reducible exact hno4))
    k_with "mine call" => (k_dflt (refine' Ct0.use (number_arg_c (k := k) ?hD ?h0 ?hn ?ha ?hb ?hk ?h1 ?h2) ?u1 ?u2 ?u3 ?u4 ?u5 ?uK ?ud ?uu ?_; (case u1 => k_asm); (case u2 => k_asm); (case u3 => k_asm); (case u4 => k_asm); (case u5 => k_asm); (case uK => first | exact rfl | assumption); (case ud => ktr_room); (case uu => ktr_units); (case hD => k_extra "mem"); (case h0 => assumption); (case hn => assumption); (case ha => assumption); (case hb => assumption); (case hk => exact K.mem); (case h1 => assumption); (case h2 => assumption); intro r9 h9 tk9 F9 N9 ho9; (first | (obtain ⟨t91, t92, t93, c9, e9⟩ := ho9; subst e9) | (obtain ⟨t9, e9⟩ := ho9; subst e9) | subst ho9 | skip); (try dsimp only); (try k_sweep); (try k_fold)))
    k_steps
    exact end0 hret (by k_asm) (by k_asm) (fun p hp => hp) ⟨_, congrArg (fun l => Value.str (S l) _) (one_num K)⟩
  · w_top off
    k_with_none
    k_with "mem" => first | (with_reducible assumption) | exact List.Mem.head _ | (refine List.mem_cons_of_mem _ ?_; k_extra "mem") | (refine List.mem_append.mpr (.inl ?_); k_extra "mem") | (refine List.mem_append.mpr (.inr ?_); k_extra "mem")
    unfold Ct0
    k_fill
    intro fp9 loose9 mean9 mg9 mb9 dp un gd9 cn9 cs9 fa9 ccd9 cl9 outer9 A9 base9 hz9 L9 m9 s9 Q9 E9 B9 F9 X9 N9 T9 hk9 hd9 hu9 hret
    refine wpAny_call ?_
    k_dflt cell_enter
    k_with "mine call" => (k_dflt (refine' Ct0.use (number_arg_c (k := 104) ?hD ?h0 ?hn ?ha ?hb ?hk ?h1 ?h2) ?u1 ?u2 ?u3 ?u4 ?u5 ?uK ?ud ?uu ?_; (case u1 => k_asm); (case u2 => k_asm); (case u3 => k_asm); (case u4 => k_asm); (case u5 => k_asm); (case uK => first | exact rfl | assumption); (case ud => ktr_room); (case uu => ktr_units); (case hD => k_extra "mem"); (case h0 => assumption); (case hn => assumption); (case ha => assumption); (case hb => assumption); (case hk => decide); (case h1 => assumption); (case h2 => assumption); intro r9 h9 tk9 F9 N9 ho9; (first | (obtain ⟨t91, t92, t93, c9, e9⟩ := ho9; subst e9) | (obtain ⟨t9, e9⟩ := ho9; subst e9) | subst ho9 | skip); (try dsimp only); (try k_sweep); (try k_fold)))
    k_steps
    exact end0 hret (by k_asm) (by k_asm) (fun p hp => hp) ⟨_, rfl⟩
  · w_top off
    k_with_none
    k_with "mem" => first | (with_reducible assumption) | exact List.Mem.head _ | (refine List.mem_cons_of_mem _ ?_; k_extra "mem") | (refine List.mem_append.mpr (.inl ?_); k_extra "mem") | (refine List.mem_append.mpr (.inr ?_); k_extra "mem")
    unfold Ct0
    k_fill
    intro fp9 loose9 mean9 mg9 mb9 dp un gd9 cn9 cs9 fa9 ccd9 cl9 outer9 A9 base9 hz9 L9 m9 s9 Q9 E9 B9 F9 X9 N9 T9 hk9 hd9 hu9 hret
    refine wpAny_call ?_
    k_dflt cell_enter
    k_with "mine call" => (k_dflt (refine' Ct0.use (filled_c ?h1 ?h2 ?h3 ?h4) ?u1 ?u2 ?u3 ?u4 ?u5 ?uK ?ud ?uu ?_; (case u1 => k_asm); (case u2 => k_asm); (case u3 => k_asm); (case u4 => k_asm); (case u5 => k_asm); (case uK => first | exact rfl | assumption); (case ud => ktr_room); (case uu => ktr_units); (case h1 => omega); (case h2 => omega); (case h3 => omega); (case h4 => omega); intro r9 h9 tk9 F9 N9 ho9; (first | (obtain ⟨t91, t92, t93, c9, e9⟩ := ho9; subst e9) | (obtain ⟨t9, e9⟩ := ho9; subst e9) | subst ho9 | skip); (try dsimp only); (try k_sweep); (try k_fold)))
    k_with "call builtin:chr" => (k_dflt (refine' n_chr ?hx ?hr ?_; (case hx => with_reducible rfl); (case hr => exact lowB_le _ _)); intro t9 k9)
    k_steps
    exact end0 hret (by k_asm) (by k_asm) (fun p hp => hp) ⟨_, rfl⟩
  · w_top off
    k_with_none
    k_with "mem" => first | (with_reducible assumption) | exact List.Mem.head _ | (refine List.mem_cons_of_mem _ ?_; k_extra "mem") | (refine List.mem_append.mpr (.inl ?_); k_extra "mem") | (refine List.mem_append.mpr (.inr ?_); k_extra "mem")
    unfold Ct0
    k_fill
    intro fp9 loose9 mean9 mg9 mb9 dp un gd9 cn9 cs9 fa9 ccd9 cl9 outer9 A9 base9 hz9 L9 m9 s9 Q9 E9 B9 F9 X9 N9 T9 hk9 hd9 hu9 hret
    refine wpAny_call ?_
    k_dflt cell_enter
    k_with "mine call" => (k_dflt (refine' Ct0.use (string_arg_vec_c ?hR ?hD ?hn ?ha ?h1 ?h2) ?u1 ?u2 ?u3 ?u4 ?u5 ?uK ?ud ?uu ?_; (case u1 => k_asm); (case u2 => k_asm); (case u3 => k_asm); (case u4 => k_asm); (case u5 => k_asm); (case uK => first | exact rfl | assumption); (case ud => ktr_room); (case uu => ktr_units); (case hR => k_extra "mem"); (case hD => k_extra "mem"); (case hn => assumption); (case ha => assumption); (case h1 => assumption); (case h2 => assumption); intro r9 h9 tk9 F9 N9 ho9; (first | (obtain ⟨t91, t92, t93, c9, e9⟩ := ho9; subst e9) | (obtain ⟨t9, e9⟩ := ho9; subst e9) | subst ho9 | skip); (try dsimp only); (try k_sweep); (try k_fold)))
    k_steps
    exact end0 hret (by k_asm) (by k_asm) (fun p hp => hp) ⟨_, rfl⟩
  · w_top off
    k_with_none
    k_with "mem" => first | (with_reducible assumption) | exact List.Mem.head _ | (refine List.mem_cons_of_mem _ ?_; k_extra "mem") | (refine List.mem_append.mpr (.inl ?_); k_extra "mem") | (refine List.mem_append.mpr (.inr ?_); k_extra "mem")
    unfold Ct0
    k_fill
    intro fp9 loose9 mean9 mg9 mb9 dp un gd9 cn9 cs9 fa9 ccd9 cl9 outer9 A9 base9 hz9 L9 m9 s9 Q9 E9 B9 F9 X9 N9 T9 hk9 hd9 hu9 hret
    refine wpAny_call ?_
    k_dflt cell_enter
    k_with "mine call" => (k_dflt (refine' Ct0.use (filled_c ?h1 ?h2 ?h3 ?h4) ?u1 ?u2 ?u3 ?u4 ?u5 ?uK ?ud ?uu ?_; (case u1 => k_asm); (case u2 => k_asm); (case u3 => k_asm); (case u4 => k_asm); (case u5 => k_asm); (case uK => first | exact rfl | assumption); (case ud => ktr_room); (case uu => ktr_units); (case h1 => omega); (case h2 => omega); (case h3 => omega); (case h4 => omega); intro r9 h9 tk9 F9 N9 ho9; (first | (obtain ⟨t91, t92, t93, c9, e9⟩ := ho9; subst e9) | (obtain ⟨t9, e9⟩ := ho9; subst e9) | subst ho9 | skip); (try dsimp only); (try k_sweep); (try k_fold)))
    k_with "mine call" => (k_dflt (refine' Ct0.use (decimal_digits_c ?hD ?h0 ?hn ?ha) ?u1 ?u2 ?u3 ?u4 ?u5 ?uK ?ud ?uu ?_; (case u1 => k_asm); (case u2 => k_asm); (case u3 => k_asm); (case u4 => k_asm); (case u5 => k_asm); (case uK => first | exact rfl | assumption); (case ud => ktr_room); (case uu => ktr_units); (case hD => k_extra "mem"); (case h0 => assumption); (case hn => assumption); (case ha => assumption); intro r9 h9 tk9 F9 N9 ho9; (first | (obtain ⟨t91, t92, t93, c9, e9⟩ := ho9; subst e9) | (obtain ⟨t9, e9⟩ := ho9; subst e9) | subst ho9 | skip); (try dsimp only); (try k_sweep); (try k_fold)))
    k_steps
    exact end0 hret (by k_asm) (by k_asm) (fun p hp => hp) ⟨_, rfl⟩

theorem small0 : Small 0 := ⟨by decide⟩

set_option maxHeartbeats 4000000 in
theorem one_arg_text_c {w : World} {news : List (Addr × Obj)} {l : List Nat} {t3 t4 t5 : Tok} {k : Nat} {wd : Int} (O : Oct l) (hk : Letter k) (h1 : -1 ≤ wd) (h2 : wd ≤ 100) :
    Ct0 w 175 9 news [.str (S [k]) t4, .int wd t5, .str (S l) t3] (fun r => ∃ u, r = .str (S (oneTextL k l wd)) u) := by
  have hl9 := O.short
  rcases letter_cases hk with K | rfl | rfl | rfl | rfl
  · have hno1 := K.no_s
    have hno2 := K.no_c
    have hno3 := K.no_t
    have hno4 := K.no_x
    w_top off
    k_with_none
    k_with "mem" => first | (with_reducible assumption) | exact List.Mem.head _ | (refine List.mem_cons_of_mem _ ?_; k_extra "mem") | (refine List.mem_append.mpr (.inl ?_); k_extra "mem") | (refine List.mem_append.mpr (.inr ?_); k_extra "mem")
    unfold Ct0
    k_fill
    intro fp9 loose9 mean9 mg9 mb9 dp un gd9 cn9 cs9 fa9 ccd9 cl9 outer9 A9 base9 hz9 L9 m9 s9 Q9 E9 B9 F9 X9 N9 T9 hk9 hd9 hu9 hret
    refine wpAny_call ?_
    k_dflt cell_enter
    k_with "compareOp Eq str str" => (k_dflt (refine eq_no ?kq ?_); (case kq => first | with_reducible exact hno1 | with_reducible exact hno2 | with_reducible exact hno3 | with_reducible exact hno4))
    k_with "mine call" => (k_dflt (refine' CtT.use (text_vec_c ?hO) ?u1 ?u2 ?u3 ?u4 ?u5 ?uK ?ud ?uu ?_; (case u1 => k_asm); (case u2 => k_asm); (case u3 => k_asm); (case u4 => k_asm); (case u5 => k_asm); (case uK => first | exact rfl | assumption); (case ud => ktr_room); (case uu => ktr_units); (case hO => assumption); intro D9 h9 tk9 o9 F9 N9 l9 ho9; (try k_lt l9); (first | (obtain ⟨t91, t92, t93, c9, e9⟩ := ho9; subst e9) | (obtain ⟨t9, e9⟩ := ho9; subst e9) | subst ho9 | skip); (try dsimp only); (try k_sweep); (try k_fold)))
    k_with "mine call" => (k_dflt (refine' Ct0.use (number_arg_c (k := k) ?hD ?h0 ?hn ?ha ?hb ?hk ?h1 ?h2) ?u1 ?u2 ?u3 ?u4 ?u5 ?uK ?ud ?uu ?_; (case u1 => k_asm); (case u2 => k_asm); (case u3 => k_asm); (case u4 => k_asm); (case u5 => k_asm); (case uK => first | exact rfl | assumption); (case ud => ktr_room); (case uu => ktr_units); (case hD => k_extra "mem"); (case h0 => omega); (case hn => omega); (case ha => exact tval_Small (by assumption)); (case hb => exact small0); (case hk => exact K.mem); (case h1 => assumption); (case h2 => assumption); intro r9 h9 tk9 F9 N9 ho9; (first | (obtain ⟨t91, t92, t93, c9, e9⟩ := ho9; subst e9) | (obtain ⟨t9, e9⟩ := ho9; subst e9) | subst ho9 | skip); (try dsimp only); (try k_sweep); (try k_fold)))
    k_steps
    exact end0 hret (by k_asm) (by k_asm) (fun p hp => List.mem_cons_of_mem _ hp) ⟨_, congrArg (fun l => Value.str (S l) _) (text_num K)⟩
  · w_top off
    k_with_none
    k_with "mem" => first | (with_reducible assumption) | exact List.Mem.head _ | (refine List.mem_cons_of_mem _ ?_; k_extra "mem") | (refine List.mem_append.mpr (.inl ?_); k_extra "mem") | (refine List.mem_append.mpr (.inr ?_); k_extra "mem")
    unfold Ct0
    k_fill
    intro fp9 loose9 mean9 mg9 mb9 dp un gd9 cn9 cs9 fa9 ccd9 cl9 outer9 A9 base9 hz9 L9 m9 s9 Q9 E9 B9 F9 X9 N9 T9 hk9 hd9 hu9 hret
    refine wpAny_call ?_
    k_dflt cell_enter
    k_with "mine call" => (k_dflt (refine' CtT.use (text_vec_c ?hO) ?u1 ?u2 ?u3 ?u4 ?u5 ?uK ?ud ?uu ?_; (case u1 => k_asm); (case u2 => k_asm); (case u3 => k_asm); (case u4 => k_asm); (case u5 => k_asm); (case uK => first | exact rfl | assumption); (case ud => ktr_room); (case uu => ktr_units); (case hO => assumption); intro D9 h9 tk9 o9 F9 N9 l9 ho9; (try k_lt l9); (first | (obtain ⟨t91, t92, t93, c9, e9⟩ := ho9; subst e9) | (obtain ⟨t9, e9⟩ := ho9; subst e9) | subst ho9 | skip); (try dsimp only); (try k_sweep); (try k_fold)))
    k_with "mine call" => (k_dflt (refine' Ct0.use (number_arg_c (k := 104) ?hD ?h0 ?hn ?ha ?hb ?hk ?h1 ?h2) ?u1 ?u2 ?u3 ?u4 ?u5 ?uK ?ud ?uu ?_; (case u1 => k_asm); (case u2 => k_asm); (case u3 => k_asm); (case u4 => k_asm); (case u5 => k_asm); (case uK => first | exact rfl | assumption); (case ud => ktr_room); (case uu => ktr_units); (case hD => k_extra "mem"); (case h0 => omega); (case hn => omega); (case ha => exact tval_Small (by assumption)); (case hb => exact small0); (case hk => decide); (case h1 => assumption); (case h2 => assumption); intro r9 h9 tk9 F9 N9 ho9; (first | (obtain ⟨t91, t92, t93, c9, e9⟩ := ho9; subst e9) | (obtain ⟨t9, e9⟩ := ho9; subst e9) | subst ho9 | skip); (try dsimp only); (try k_sweep); (try k_fold)))
    k_steps
    exact end0 hret (by k_asm) (by k_asm) (fun p hp => List.mem_cons_of_mem _ hp) ⟨_, rfl⟩
  · w_top off
    k_with_none
    k_with "mem" => first | (with_reducible assumption) | exact List.Mem.head _ | (refine List.mem_cons_of_mem _ ?_; k_extra "mem") | (refine List.mem_append.mpr (.inl ?_); k_extra "mem") | (refine List.mem_append.mpr (.inr ?_); k_extra "mem")
    unfold Ct0
    k_fill
    intro fp9 loose9 mean9 mg9 mb9 dp un gd9 cn9 cs9 fa9 ccd9 cl9 outer9 A9 base9 hz9 L9 m9 s9 Q9 E9 B9 F9 X9 N9 T9 hk9 hd9 hu9 hret
    refine wpAny_call ?_
    k_dflt cell_enter
    k_with "mine call" => (k_dflt (refine' CtT.use (text_vec_c ?hO) ?u1 ?u2 ?u3 ?u4 ?u5 ?uK ?ud ?uu ?_; (case u1 => k_asm); (case u2 => k_asm); (case u3 => k_asm); (case u4 => k_asm); (case u5 => k_asm); (case uK => first | exact rfl | assumption); (case ud => ktr_room); (case uu => ktr_units); (case hO => assumption); intro D9 h9 tk9 o9 F9 N9 l9 ho9; (try k_lt l9); (first | (obtain ⟨t91, t92, t93, c9, e9⟩ := ho9; subst e9) | (obtain ⟨t9, e9⟩ := ho9; subst e9) | subst ho9 | skip); (try dsimp only); (try k_sweep); (try k_fold)))
    k_with "mine call" => (k_dflt (refine' Ct0.use (filled_c ?h1 ?h2 ?h3 ?h4) ?u1 ?u2 ?u3 ?u4 ?u5 ?uK ?ud ?uu ?_; (case u1 => k_asm); (case u2 => k_asm); (case u3 => k_asm); (case u4 => k_asm); (case u5 => k_asm); (case uK => first | exact rfl | assumption); (case ud => ktr_room); (case uu => ktr_units); (case h1 => omega); (case h2 => omega); (case h3 => omega); (case h4 => omega); intro r9 h9 tk9 F9 N9 ho9; (first | (obtain ⟨t91, t92, t93, c9, e9⟩ := ho9; subst e9) | (obtain ⟨t9, e9⟩ := ho9; subst e9) | subst ho9 | skip); (try dsimp only); (try k_sweep); (try k_fold)))
    k_with "call builtin:chr" => (k_dflt (refine' n_chr ?hx ?hr ?_; (case hx => with_reducible rfl); (case hr => exact lowB_le _ _)); intro t9 k9)
    k_steps
    exact end0 hret (by k_asm) (by k_asm) (fun p hp => List.mem_cons_of_mem _ hp) ⟨_, rfl⟩
  · w_top off
    k_with_none
    k_with "mem" => first | (with_reducible assumption) | exact List.Mem.head _ | (refine List.mem_cons_of_mem _ ?_; k_extra "mem") | (refine List.mem_append.mpr (.inl ?_); k_extra "mem") | (refine List.mem_append.mpr (.inr ?_); k_extra "mem")
    unfold Ct0
    k_fill
    intro fp9 loose9 mean9 mg9 mb9 dp un gd9 cn9 cs9 fa9 ccd9 cl9 outer9 A9 base9 hz9 L9 m9 s9 Q9 E9 B9 F9 X9 N9 T9 hk9 hd9 hu9 hret
    refine wpAny_call ?_
    k_dflt cell_enter
    k_with "mine call" => (k_dflt (refine' Ct0.use (string_arg_text_c ?hl ?h1 ?h2) ?u1 ?u2 ?u3 ?u4 ?u5 ?uK ?ud ?uu ?_; (case u1 => k_asm); (case u2 => k_asm); (case u3 => k_asm); (case u4 => k_asm); (case u5 => k_asm); (case uK => first | exact rfl | assumption); (case ud => ktr_room); (case uu => ktr_units); (case hl => omega); (case h1 => assumption); (case h2 => assumption); intro r9 h9 tk9 F9 N9 ho9; (first | (obtain ⟨t91, t92, t93, c9, e9⟩ := ho9; subst e9) | (obtain ⟨t9, e9⟩ := ho9; subst e9) | subst ho9 | skip); (try dsimp only); (try k_sweep); (try k_fold)))
    k_steps
    exact end0 hret (by k_asm) (by k_asm) (fun p hp => hp) ⟨_, rfl⟩
  · w_top off
    k_with_none
    k_with "mem" => first | (with_reducible assumption) | exact List.Mem.head _ | (refine List.mem_cons_of_mem _ ?_; k_extra "mem") | (refine List.mem_append.mpr (.inl ?_); k_extra "mem") | (refine List.mem_append.mpr (.inr ?_); k_extra "mem")
    unfold Ct0
    k_fill
    intro fp9 loose9 mean9 mg9 mb9 dp un gd9 cn9 cs9 fa9 ccd9 cl9 outer9 A9 base9 hz9 L9 m9 s9 Q9 E9 B9 F9 X9 N9 T9 hk9 hd9 hu9 hret
    refine wpAny_call ?_
    k_dflt cell_enter
    k_with "mine call" => (k_dflt (refine' CtT.use (text_vec_c ?hO) ?u1 ?u2 ?u3 ?u4 ?u5 ?uK ?ud ?uu ?_; (case u1 => k_asm); (case u2 => k_asm); (case u3 => k_asm); (case u4 => k_asm); (case u5 => k_asm); (case uK => first | exact rfl | assumption); (case ud => ktr_room); (case uu => ktr_units); (case hO => assumption); intro D9 h9 tk9 o9 F9 N9 l9 ho9; (try k_lt l9); (first | (obtain ⟨t91, t92, t93, c9, e9⟩ := ho9; subst e9) | (obtain ⟨t9, e9⟩ := ho9; subst e9) | subst ho9 | skip); (try dsimp only); (try k_sweep); (try k_fold)))
    k_with "mine call" => (k_dflt (refine' Ct0.use (filled_c ?h1 ?h2 ?h3 ?h4) ?u1 ?u2 ?u3 ?u4 ?u5 ?uK ?ud ?uu ?_; (case u1 => k_asm); (case u2 => k_asm); (case u3 => k_asm); (case u4 => k_asm); (case u5 => k_asm); (case uK => first | exact rfl | assumption); (case ud => ktr_room); (case uu => ktr_units); (case h1 => omega); (case h2 => omega); (case h3 => omega); (case h4 => omega); intro r9 h9 tk9 F9 N9 ho9; (first | (obtain ⟨t91, t92, t93, c9, e9⟩ := ho9; subst e9) | (obtain ⟨t9, e9⟩ := ho9; subst e9) | subst ho9 | skip); (try dsimp only); (try k_sweep); (try k_fold)))
    k_with "mine call" => (k_dflt (refine' Ct0.use (decimal_digits_c ?hD ?h0 ?hn ?ha) ?u1 ?u2 ?u3 ?u4 ?u5 ?uK ?ud ?uu ?_; (case u1 => k_asm); (case u2 => k_asm); (case u3 => k_asm); (case u4 => k_asm); (case u5 => k_asm); (case uK => first | exact rfl | assumption); (case ud => ktr_room); (case uu => ktr_units); (case hD => k_extra "mem"); (case h0 => omega); (case hn => omega); (case ha => exact tval_Small (by assumption)); intro r9 h9 tk9 F9 N9 ho9; (first | (obtain ⟨t91, t92, t93, c9, e9⟩ := ho9; subst e9) | (obtain ⟨t9, e9⟩ := ho9; subst e9) | subst ho9 | skip); (try dsimp only); (try k_sweep); (try k_fold)))
    k_steps
    exact end0 hret (by k_asm) (by k_asm) (fun p hp => List.mem_cons_of_mem _ hp) ⟨_, rfl⟩

local macro_rules | `(tactic| walk_at "binaryOp Pow int int") => `(tactic| (refine' n_pow ?nx ?ny ?nb ?na ?_; (case nx => (first | (with_reducible rfl) | exact lit0 | exact lit1 | exact lit2 | exact lit8 | exact lit255 | exact lit256 | (with_reducible exact sub1_c (by omega)))); (case ny => (first | (with_reducible rfl) | exact lit0 | exact lit1 | exact lit2 | exact lit8 | exact lit255 | exact lit256 | (with_reducible exact sub1_c (by omega)))); (case nb => (first | omega | decide)); (case na => (first | omega | decide))))
local macro_rules | `(tactic| walk_at "binaryOp FloorDiv int int") => `(tactic| first | (refine' n_fdiv_pow ?nx ?ny ?nb ?_; (case nx => (first | (with_reducible rfl) | exact lit0 | exact lit1 | exact lit2 | exact lit8 | exact lit255 | exact lit256 | (with_reducible exact sub1_c (by omega)))); (case ny => with_reducible rfl); (case nb => omega)) | (refine' n_fdiv ?nx ?ny ?nb ?nc ?_; (case nx => (first | (with_reducible rfl) | exact lit0 | exact lit1 | exact lit2 | exact lit8 | exact lit255 | exact lit256 | (with_reducible exact sub1_c (by omega)))); (case ny => (first | (with_reducible rfl) | exact lit0 | exact lit1 | exact lit2 | exact lit8 | exact lit255 | exact lit256 | (with_reducible exact sub1_c (by omega)))); (case nb => omega); (case nc => omega)))
local macro_rules | `(tactic| walk_at "binaryOp Mod int int") => `(tactic| (refine' n_mod ?nx ?ny ?nb ?_; (case nx => (first | (with_reducible rfl) | exact lit0 | exact lit1 | exact lit2 | exact lit8 | exact lit255 | exact lit256 | (with_reducible exact sub1_c (by omega)))); (case ny => (first | (with_reducible rfl) | exact lit0 | exact lit1 | exact lit2 | exact lit8 | exact lit255 | exact lit256 | (with_reducible exact sub1_c (by omega)))); (case nb => (first | omega | exact Nat.two_pow_pos _))))
local macro_rules | `(tactic| walk_at "binaryOp Mult int int") => `(tactic| (refine' n_mul ?nx ?ny ?na ?_; (case nx => (first | (with_reducible rfl) | exact lit0 | exact lit1 | exact lit2 | exact lit8 | exact lit255 | exact lit256 | (with_reducible exact sub1_c (by omega)))); (case ny => (first | (with_reducible rfl) | exact lit0 | exact lit1 | exact lit2 | exact lit8 | exact lit255 | exact lit256 | (with_reducible exact sub1_c (by omega)))); (case na => (first | omega | decide))))
local macro_rules | `(tactic| walk_at "subscriptTail Name BinOp str int") => `(tactic| k_extra "subscriptTail Name BinOp str int")
local macro_rules | `(tactic| walk_at "binaryOp Add str str") => `(tactic| k_extra "binaryOp Add str str")
local macro_rules | `(tactic| walk_at "subscriptTail Constant") => `(tactic| k_extra "lit item")
structure LInv (a b k : Nat) (x : Str) : Prop where
  it : x = S (signs a b k)
theorem LInv.step {a b : Nat} {pre : List Int} {i : Nat} (hi : (i : Int) = 0 + pre.length) : LInv a b (pre ++ [(i : Int)]).length (S ([sgn (a / 2 ^ i % 2 + 2 * (b / 2 ^ i % 2))] ++ signs a b pre.length)) := by
  refine ⟨?_⟩
  have e : (pre ++ [(i : Int)]).length = pre.length + 1 := by simp
  have e2 : i = pre.length := by omega
  rw [e, e2]
  rfl
theorem LInv.done {a b n : Nat} {x : Str} (I : LInv a b (rangeKs 0 ((n : Int) - 0).toNat).length x) : x = S (signs a b n) := by
  rw [I.it, rangeKs_length, show ((n : Int) - 0).toNat = n by omega]
theorem cd_lt' (a b i : Nat) : a / 2 ^ i % 2 + 2 * (b / 2 ^ i % 2) < 4 := cd_lt a b i

set_option maxHeartbeats 1000000 in
theorem law_signs_c {w : World} {news : List (Addr × Obj)} {D : Addr} {n a b : Nat} {t1 t2 t3 : Tok} {c : Nat} (hD : (D, vecO n a b t1 t2 t3 c) ∈ news) (hn : n ≤ 40) :
    Ct0 w 196 1 news [.ref D] (fun r => ∃ u, r = .str (S (signs a b n)) u) := by
  w_top off
  k_with_none
  k_with "mem" => first | (with_reducible assumption) | exact List.Mem.head _ | (refine List.mem_cons_of_mem _ ?_; k_extra "mem") | (refine List.mem_append.mpr (.inl ?_); k_extra "mem") | (refine List.mem_append.mpr (.inr ?_); k_extra "mem")
  unfold Ct0
  k_fill
  intro fp9 loose9 mean9 mg9 mb9 dp un gd9 cn9 cs9 fa9 ccd9 cl9 outer9 A9 base9 hz9 L9 m9 s9 Q9 E9 B9 F9 X9 N9 T9 hk9 hd9 hu9 hret
  refine wpAny_call ?_
  k_dflt cell_enter
  k_with "pyIter ref" => k_dflt (k_state (fun pre x => LInv a b pre.length x) "signs" <;> first | (have h9 := LInv.done kInv; subst h9; clear kInv) | (obtain ⟨e91⟩ := kInv; subst e91; obtain ⟨i9, e9⟩ : ∃ i9 : Nat, kN = (i9 : Int) := ⟨kPre.length, by omega⟩; subst e9))
  k_with "facts" => exact True.intro
  k_with "state" => first | exact ⟨s_empty⟩ | exact LInv.step (by assumption)
  k_with "lit item" => (k_dflt (refine' str_item sgn_l ?hk (sgn_at _ ?hi) ?hl ?_; (case hk => with_reducible rfl); (case hi => exact cd_lt' _ _ _); (case hl => decide)); intro t9 tk9)
  k_with "binaryOp Add str str" => (k_dflt (refine' r_cat ?hx ?hy ?hl ?_; (case hx => with_reducible rfl); (case hy => with_reducible rfl); (case hl => (rw [signs_len]; simp only [List.length_cons, List.length_nil]; omega))); intro t9 tk9)
  k_steps
  exact end0 hret (by k_asm) (by k_asm) (fun p hp => hp) ⟨_, rfl⟩

local macro_rules | `(tactic| walk_at "compareOp In str str") => `(tactic| k_extra "compareOp In str str")
local macro_rules | `(tactic| walk_at "compareOp NotIn str str") => `(tactic| k_extra "compareOp NotIn str str")
local macro_rules | `(tactic| walk_at "binaryOp Mult str int") => `(tactic| k_extra "binaryOp Mult str int")
local macro_rules | `(tactic| walk_at "call type:str") => `(tactic| k_extra "call type:str")
def bval (l : List Nat) : Nat := l.foldl (fun v c => 2 * v + (c - 48)) 0
theorem bval_snoc (l : List Nat) (c : Nat) : bval (l ++ [c]) = 2 * bval l + (c - 48) := by unfold bval; rw [List.foldl_append]; rfl
def gval (l : List Nat) : Nat := if ¬ 120 ∈ l ∧ ¬ 122 ∈ l then hexd (bval l) else if 120 ∈ l then (if l = List.replicate l.length 120 then 120 else 88) else if l = List.replicate l.length 122 then 122 else 90
structure Sg (l : List Nat) : Prop where
  all : ∀ c ∈ l, c = 48 ∨ c = 49 ∨ c = 120 ∨ c = 122
theorem Sg.bin {l : List Nat} (h : Sg l) (hx : ¬ 120 ∈ l) (hz : ¬ 122 ∈ l) : ∀ c ∈ l, c = 48 ∨ c = 49 := fun c hc => by
  rcases h.all c hc with h1 | h1 | h1 | h1
  · exact .inl h1
  · exact .inr h1
  · exact absurd (h1 ▸ hc) hx
  · exact absurd (h1 ▸ hc) hz
theorem bval_aux : ∀ (l : List Nat) (v k : Nat), v < 2 ^ k → (∀ c ∈ l, c = 48 ∨ c = 49) → l.foldl (fun v c => 2 * v + (c - 48)) v < 2 ^ (k + l.length)
  | [], _, _, h, _ => h
  | c :: r, v, k, h, hl => by
    have h1 := hl c (.head _)
    have := bval_aux r (2 * v + (c - 48)) (k + 1) (by rw [Nat.pow_succ]; omega) (fun d hd => hl d (.tail _ hd))
    rw [List.foldl_cons, List.length_cons, show k + (r.length + 1) = k + 1 + r.length by omega]
    exact this
theorem bval_lt {l : List Nat} (h : ∀ c ∈ l, c = 48 ∨ c = 49) : bval l < 2 ^ l.length := by
  have := bval_aux l 0 0 (by decide) h
  rwa [Nat.zero_add] at this
theorem bval_16 {l : List Nat} (h : ∀ c ∈ l, c = 48 ∨ c = 49) (h4 : l.length ≤ 4) : bval l < 16 :=
  Nat.lt_of_lt_of_le (bval_lt h) (Nat.le_trans (Nat.pow_le_pow_right (by decide) h4) (by decide))
theorem S_beq {l m : List Nat} {b : Bool} (h : (S l == S m) = b) : decide (l = m) = b := by
  rw [← h]
  by_cases e : l = m
  · subst e; simp
  · rw [decide_eq_false e]
    symm
    rw [beq_eq_false_iff_ne]
    intro q
    have := congrArg (fun x : Str => x.cps.toList) q
    simp at this
    exact e this
theorem nat_c (n : Nat) : ((n : Int)).toNat = n := by omega
theorem gv_x1 {l : List Nat} (h1 : 120 ∈ l) (h2 : (S l == S (List.replicate ((l.length : Int)).toNat 120)) = true) : Str.ofString "x" = S [gval l] := by
  rw [nat_c] at h2
  have h3 := of_decide_eq_true (S_beq h2)
  unfold gval
  rw [if_neg (fun h => h.1 h1), if_pos h1, if_pos h3]
  exact s_x
theorem gv_x2 {l : List Nat} (h1 : 120 ∈ l) (h2 : (S l == S (List.replicate ((l.length : Int)).toNat 120)) = false) : Str.ofString "X" = S [gval l] := by
  rw [nat_c] at h2
  have h3 := of_decide_eq_false (S_beq h2)
  unfold gval
  rw [if_neg (fun h => h.1 h1), if_pos h1, if_neg h3]
  exact s_X
theorem gv_z1 {l : List Nat} (h0 : ¬ 120 ∈ l) (h1 : 122 ∈ l) (h2 : (S l == S (List.replicate ((l.length : Int)).toNat 122)) = true) : Str.ofString "z" = S [gval l] := by
  rw [nat_c] at h2
  have h3 := of_decide_eq_true (S_beq h2)
  unfold gval
  rw [if_neg (fun h => h.2 h1), if_neg h0, if_pos h3]
  exact s_z
theorem gv_z2 {l : List Nat} (h0 : ¬ 120 ∈ l) (h1 : 122 ∈ l) (h2 : (S l == S (List.replicate ((l.length : Int)).toNat 122)) = false) : Str.ofString "Z" = S [gval l] := by
  rw [nat_c] at h2
  have h3 := of_decide_eq_false (S_beq h2)
  unfold gval
  rw [if_neg (fun h => h.2 h1), if_neg h0, if_neg h3]
  exact s_Z
theorem gv_b {l : List Nat} (h0 : ¬ 120 ∈ l) (h1 : ¬ 122 ∈ l) : S [hexd (bval l)] = S [gval l] := by
  unfold gval
  rw [if_pos ⟨h0, h1⟩]
structure VInv (l : List Nat) (pre : List Int) (v : Int) : Prop where
  it : ∃ p q : List Nat, l = p ++ q ∧ pre = p.map (fun (c : Nat) => (c : Int)) ∧ v = ((bval p : Nat) : Int)
theorem VInv.start {l : List Nat} : VInv l [] 0 := ⟨[], l, rfl, rfl, rfl⟩
theorem VInv.step {l p q : List Nat} {pre post : List Int} {n : Nat} (e1 : l = p ++ q) (e2 : pre = p.map (fun (c : Nat) => (c : Int))) (h : KStt.codes (S l) = pre ++ (n : Int) :: post) : VInv l (pre ++ [(n : Int)]) ((2 * bval p + (n - 48) : Nat) : Int) := by
  obtain ⟨r, rfl⟩ := split_codes e1 e2 h
  exact ⟨p ++ [n], r, by rw [e1]; simp, by rw [e2]; simp, by rw [bval_snoc]⟩
theorem VInv.done {l : List Nat} {v : Int} (T : VInv l (KStt.codes (S l)) v) : v = ((bval l : Nat) : Int) := by
  obtain ⟨p, q, e1, e2, e3⟩ := T.it
  rw [codes_S] at e2
  rw [e3, map_cast_inj e2]
theorem code_mem {l p q : List Nat} {pre post : List Int} {n : Nat} (e1 : l = p ++ q) (e2 : pre = p.map (fun (c : Nat) => (c : Int))) (h : KStt.codes (S l) = pre ++ (n : Int) :: post) : n ∈ l := by
  obtain ⟨r, rfl⟩ := split_codes e1 e2 h
  rw [e1]; simp
theorem lit_01 : Str.ofString "01" = S [48, 49] := by decide +kernel

set_option maxHeartbeats 1000000 in
theorem law_group_c {w : World} {news : List (Addr × Obj)} {l : List Nat} {t : Tok} (hl : Sg l) (h4 : l.length ≤ 4) :
    Ct0 w 203 1 news [.str (S l) t] (fun r => ∃ u, r = .str (S [gval l]) u) := by
  w_top off
  k_with_none
  k_with "mem" => first | (with_reducible assumption) | exact List.Mem.head _ | (refine List.mem_cons_of_mem _ ?_; k_extra "mem") | (refine List.mem_append.mpr (.inl ?_); k_extra "mem") | (refine List.mem_append.mpr (.inr ?_); k_extra "mem")
  unfold Ct0
  k_fill
  intro fp9 loose9 mean9 mg9 mb9 dp un gd9 cn9 cs9 fa9 ccd9 cl9 outer9 A9 base9 hz9 L9 m9 s9 Q9 E9 B9 F9 X9 N9 T9 hk9 hd9 hu9 hret
  refine wpAny_call ?_
  k_dflt cell_enter
  k_with "compareOp NotIn str str" => k_dflt (first | refine r_notin (c := 120) rfl s_x ?_ | refine r_notin (c := 122) rfl s_z ?_)
  k_with "compareOp In str str" => k_dflt (first | refine r_in (c := 120) rfl s_x ?_ | refine r_in (c := 122) rfl s_z ?_)
  k_with "pyIter str" => k_dflt (k_state (fun pre v => VInv l pre v) "total" <;> ((rename VInv _ _ _ => h0); first | (have h1 := VInv.done h0; subst h1; clear h0) | (obtain ⟨p9, q9, e91, e92, e93⟩ := h0.it; subst e93; clear h0)))
  k_with "facts" => exact True.intro
  k_with "state" => first | exact VInv.start | exact VInv.step (by assumption) (by assumption) (by assumption)
  k_with "call builtin:len" => (k_dflt (refine' r_len ?hx ?hl ?_; (case hx => with_reducible rfl); (case hl => omega)); intro t9 tk9)
  k_with "binaryOp Mult str int" => (k_dflt (first | refine' r_mulc (c := 120) s_x ?h1 ?h2 ?_ | refine' r_mulc (c := 122) s_z ?h1 ?h2 ?_); (case h1 => omega); (case h2 => omega); intro t9 tk9)
  k_with "call builtin:str.index" => (k_dflt (refine' r_index01 lit_01 ?hy ?hc ?_; (case hy => exact rfl); (case hc => exact Sg.bin (by assumption) (by assumption) (by assumption) _ (code_mem (by assumption) (by assumption) (by assumption)))))
  k_with "subscriptTail Name Name str int" => (k_dflt (refine' str_item hex_l ?hk (hex_at _ ?hi) ?hl ?_; (case hk => with_reducible rfl); (case hi => exact bval_16 (Sg.bin (by assumption) (by assumption) (by assumption)) (by assumption)); (case hl => decide)); intro t9 tk9)
  k_steps
  all_goals first | (exfalso; contradiction) | refine end0 hret (by k_asm) (by k_asm) (fun p hp => hp) ⟨_, congrArg (Value.str · _) ?_⟩
  · exact gv_x1 (by assumption) (by assumption)
  · exact gv_x2 (by assumption) (by assumption)
  · exact gv_z1 (by assumption) (by assumption) (by assumption)
  · exact gv_z2 (by assumption) (by assumption) (by assumption)
  · exact gv_b (by assumption) (by assumption)

-- nolocal
theorem signs_drop (a b k : Nat) : ∀ m, (signs a b (m + k)).drop m = signs a b k
  | 0 => by rw [Nat.zero_add]; rfl
  | m + 1 => by
    rw [show m + 1 + k = (m + k) + 1 by omega]
    exact signs_drop a b k m
theorem signs_last (a b w k : Nat) : (signs a b w).drop (w - k) = signs a b (min k w) := by
  have h := signs_drop a b (min k w) (w - k)
  rwa [show w - k + min k w = w by omega] at h
theorem cd_shift (a b k m : Nat) : cd (a / 2 ^ k) (b / 2 ^ k) m = cd a b (m + k) := by
  unfold cd bit
  rw [Nat.div_div_eq_div_mul, Nat.div_div_eq_div_mul, ← Nat.pow_add, Nat.add_comm k m]
theorem signs_take (a b k : Nat) : ∀ m, (signs a b (m + k)).take m = signs (a / 2 ^ k) (b / 2 ^ k) m
  | 0 => rfl
  | m + 1 => by
    rw [show m + 1 + k = (m + k) + 1 by omega]
    show sgn (cd a b (m + k)) :: (signs a b (m + k)).take m = sgn (cd (a / 2 ^ k) (b / 2 ^ k) m) :: signs (a / 2 ^ k) (b / 2 ^ k) m
    rw [signs_take a b k m, cd_shift]
theorem signs_first (a b w k : Nat) : (signs a b w).take (w - k) = signs (a / 2 ^ k) (b / 2 ^ k) (w - k) := by
  by_cases h : k ≤ w
  · have h1 := signs_take a b k (w - k)
    rwa [show w - k + k = w by omega] at h1
  · rw [show w - k = 0 by omega]; rfl
theorem bit_lt (a i : Nat) : bit a i = 0 ∨ bit a i = 1 := by unfold bit; omega
theorem mem_120 {a b : Nat} : ∀ {n}, 120 ∈ signs a b n ↔ ∃ i, i < n ∧ cd a b i = 3
  | 0 => by simp [signs]
  | n + 1 => by
    rw [signs, List.mem_cons, mem_120]
    have h4 := cd_lt a b n
    constructor
    · rintro (h | ⟨i, h1, h2⟩)
      · refine ⟨n, by omega, ?_⟩
        unfold sgn at h
        split at h
        · cases h
        · split at h
          · cases h
          · split at h
            · cases h
            · omega
      · exact ⟨i, by omega, h2⟩
    · rintro ⟨i, h1, h2⟩
      by_cases e : i = n
      · subst e; left; rw [h2]; rfl
      · right; exact ⟨i, by omega, h2⟩
theorem mem_122 {a b : Nat} : ∀ {n}, 122 ∈ signs a b n ↔ ∃ i, i < n ∧ cd a b i = 2
  | 0 => by simp [signs]
  | n + 1 => by
    rw [signs, List.mem_cons, mem_122]
    have h4 := cd_lt a b n
    constructor
    · rintro (h | ⟨i, h1, h2⟩)
      · refine ⟨n, by omega, ?_⟩
        unfold sgn at h
        split at h
        · cases h
        · split at h
          · cases h
          · split at h
            · assumption
            · cases h
      · exact ⟨i, by omega, h2⟩
    · rintro ⟨i, h1, h2⟩
      by_cases e : i = n
      · subst e; left; rw [h2]; rfl
      · right; exact ⟨i, by omega, h2⟩
theorem mod_succ (b n : Nat) : b % 2 ^ (n + 1) = b % 2 ^ n + 2 ^ n * bit b n := by
  unfold bit
  exact Nat.mod_pow_succ
theorem low_zero (b : Nat) : ∀ n, b % 2 ^ n = 0 ↔ ∀ i, i < n → bit b i = 0
  | 0 => by simp [Nat.mod_one]
  | n + 1 => by
    have ih := low_zero b n
    have hp := Nat.two_pow_pos n
    rw [mod_succ]
    constructor
    · intro h i hi
      have h1 : b % 2 ^ n = 0 := by omega
      have h2 : 2 ^ n * bit b n = 0 := by omega
      by_cases e : i = n
      · subst e
        rcases bit_lt b i with h3 | h3
        · exact h3
        · rw [h3] at h2; omega
      · exact ih.mp h1 i (by omega)
    · intro h
      rw [ih.mpr fun i hi => h i (by omega), h n (by omega)]
      omega
theorem known_iff {a b n : Nat} : (¬ 120 ∈ signs a b n ∧ ¬ 122 ∈ signs a b n) ↔ b % 2 ^ n = 0 := by
  rw [mem_120, mem_122, low_zero]
  constructor
  · rintro ⟨h1, h2⟩ i hi
    have h3 := bit_lt a i
    rcases bit_lt b i with h4 | h4
    · exact h4
    · exfalso
      rcases h3 with h3 | h3
      · exact h2 ⟨i, hi, by unfold cd; omega⟩
      · exact h1 ⟨i, hi, by unfold cd; omega⟩
  · intro h
    constructor
    · rintro ⟨i, hi, h2⟩
      have h3 := h i hi
      have h4 := bit_lt a i
      unfold cd at h2
      omega
    · rintro ⟨i, hi, h2⟩
      have h3 := h i hi
      have h4 := bit_lt a i
      unfold cd at h2
      omega
theorem bval_cons (c : Nat) (l : List Nat) : bval (c :: l) = (c - 48) * 2 ^ l.length + bval l := by
  have key : ∀ (l : List Nat) (v : Nat), l.foldl (fun v c => 2 * v + (c - 48)) v = v * 2 ^ l.length + bval l := by
    intro l
    induction l with
    | nil => intro v; simp [bval]
    | cons d r ih =>
      intro v
      rw [List.foldl_cons, ih, show bval (d :: r) = r.foldl (fun v c => 2 * v + (c - 48)) (d - 48) by simp [bval], ih, List.length_cons, Nat.pow_succ, Nat.add_mul, Nat.mul_comm 2 v, Nat.mul_assoc, Nat.mul_comm 2 (2 ^ r.length)]
      omega
  rw [show bval (c :: l) = l.foldl (fun v c => 2 * v + (c - 48)) (c - 48) by simp [bval]]
  rw [key]
theorem bval_signs {a b : Nat} : ∀ {n}, (∀ i, i < n → bit b i = 0) → bval (signs a b n) = a % 2 ^ n
  | 0, _ => by simp [signs, bval, Nat.mod_one]
  | n + 1, h => by
    have h1 := h n (by omega)
    have e : sgn (cd a b n) - 48 = bit a n := by
      unfold cd
      rw [h1]
      rcases bit_lt a n with h2 | h2 <;> rw [h2] <;> rfl
    rw [signs, bval_cons, signs_len, bval_signs (fun i hi => h i (by omega)), mod_succ, e, Nat.mul_comm]
    omega
theorem bit_mod {a n i : Nat} (h : i < n) : bit (a % 2 ^ n) i = bit a i := by
  have h1 := Nat.testBit_mod_two_pow a n i
  rw [decide_eq_true h, Bool.true_and] at h1
  unfold bit
  have e : ∀ x, x / 2 ^ i % 2 = (x.testBit i).toNat := fun x => by rw [Nat.testBit_eq_decide_div_mod_eq]; by_cases q : x / 2 ^ i % 2 = 1
                                                                   · rw [q]; rfl
                                                                   · rw [decide_eq_false q, show x / 2 ^ i % 2 = 0 by omega]; rfl
  rw [e, e, h1]
theorem signs_mod {a b n : Nat} : ∀ {k}, k ≤ n → signs (a % 2 ^ n) (b % 2 ^ n) k = signs a b k
  | 0, _ => rfl
  | k + 1, h => by
    show sgn (cd _ _ k) :: signs _ _ k = sgn (cd a b k) :: signs a b k
    rw [signs_mod (by omega)]
    unfold cd
    rw [bit_mod (by omega), bit_mod (by omega)]
theorem count_all {l : List Nat} {c : Nat} : l.count c = l.length ↔ l = List.replicate l.length c := by
  rw [List.count_eq_length, List.eq_replicate_iff]
  exact ⟨fun h => ⟨rfl, fun b hb => (h b hb).symm⟩, fun h b hb => (h.2 b hb).symm⟩
theorem gsign_eq (l : List Nat) : gsign l = if 120 ∈ l then (if l = List.replicate l.length 120 then 120 else 88) else if l = List.replicate l.length 122 then 122 else 90 := by
  unfold gsign
  simp only [List.count_pos_iff, count_all]
theorem gval_signs (a b n : Nat) : gval (signs a b n) = dig n a b := by
  unfold gval dig
  by_cases h : b % 2 ^ n = 0
  · rw [if_pos (known_iff.mpr h), if_pos h, bval_signs ((low_zero b n).mp h)]
  · rw [if_neg (fun q => h (known_iff.mp q)), if_neg h, signs_mod (Nat.le_refl n), gsign_eq]
theorem signs_Sg (a b : Nat) : ∀ n, Sg (signs a b n)
  | 0 => ⟨fun _ h => nomatch h⟩
  | n + 1 => ⟨fun c hc => by
    rcases List.mem_cons.mp hc with rfl | hc
    · unfold sgn
      split
      · exact .inl rfl
      · split
        · exact .inr (.inl rfl)
        · split
          · exact .inr (.inr (.inr rfl))
          · exact .inr (.inr (.inl rfl))
    · exact (signs_Sg a b n).all c hc⟩

structure DInv (n a b sz : Nat) (sg td : Str) : Prop where
  it : ∃ (f w a' b' : Nat) (tl : List Nat), w ≤ n ∧ w ≤ f ∧ sg = S (signs a' b' w) ∧ td = S tl ∧ tl.length + w ≤ n ∧ digits sz n n a b = digits sz f w a' b' ++ tl
theorem DInv.start {n a b sz : Nat} {td : Str} (h : td = Str.ofString "") : DInv n a b sz (S (signs a b n)) td := ⟨n, n, a, b, [], Nat.le_refl _, Nat.le_refl _, rfl, by rw [h, s_empty]; rfl, by simp, by simp⟩
theorem DInv.step {n a b sz f w a' b' : Nat} {tl : List Nat} (hs : 0 < sz) (h1 : w ≤ n) (h2 : w ≤ f) (h3 : tl.length + w ≤ n) (h4 : digits sz n n a b = digits sz f w a' b' ++ tl) (hw : 0 < w) :
    DInv n a b sz (S ((signs a' b' w).take ((signs a' b' w).length - sz))) (S ([gval ((signs a' b' w).drop ((signs a' b' w).length - sz))] ++ tl)) := by
  obtain ⟨f', rfl⟩ : ∃ f', f = f' + 1 := ⟨f - 1, by omega⟩
  rw [signs_len, signs_first, signs_last, gval_signs]
  refine ⟨f', w - sz, a' / 2 ^ sz, b' / 2 ^ sz, [dig (min sz w) a' b'] ++ tl, by omega, by omega, rfl, rfl, by simp only [List.length_append, List.length_cons, List.length_nil]; omega, ?_⟩
  rw [h4, digits, if_neg (by omega), List.append_assoc]
theorem DInv.done {n a b sz f w a' b' : Nat} {tl : List Nat} (h4 : digits sz n n a b = digits sz f w a' b' ++ tl) (hw : w = 0) : S tl = S (digits sz n n a b) := by
  subst hw
  have e2 : digits sz f 0 a' b' = [] := by cases f <;> simp [digits]
  rw [h4, e2, List.nil_append]
theorem w_pos {a b w : Nat} (h : (S (signs a b w) != Str.ofString "") = true) : 0 < w := by
  cases w with
  | zero => rw [s_empty] at h; cases h
  | succ w => omega
theorem w_nil {a b w : Nat} (h : (S (signs a b w) != Str.ofString "") = false) : w = 0 := by
  cases w with
  | zero => rfl
  | succ w =>
    have := bne_eq_false_iff_eq.mp h
    rw [s_empty] at this
    have h5 := congrArg Str.length this
    rw [S_len, signs_len] at h5
    cases h5

theorem seg_Sg (a b w k : Nat) : Sg ((signs a b w).drop ((signs a b w).length - k)) := by rw [signs_len, signs_last]; exact signs_Sg _ _ _
theorem seg_len {a b w k : Nat} (h : k ≤ 4) : ((signs a b w).drop ((signs a b w).length - k)).length ≤ 4 := by rw [signs_len, signs_last, signs_len]; omega

set_option maxHeartbeats 1000000 in
theorem law_digits_c {w : World} {news : List (Addr × Obj)} {D : Addr} {n a b : Nat} {t1 t2 t3 t4 : Tok} {c sz : Nat} (hD : (D, vecO n a b t1 t2 t3 c) ∈ news) (hn : n ≤ 40) (hs : 0 < sz) (hs4 : sz ≤ 4) :
    Ct0 w 210 2 news [.ref D, .int (sz : Int) t4] (fun r => ∃ u, r = .str (S (digits sz n n a b)) u) := by
  w_top off
  k_with_none
  k_with "mem" => first | (with_reducible assumption) | exact List.Mem.head _ | (refine List.mem_cons_of_mem _ ?_; k_extra "mem") | (refine List.mem_append.mpr (.inl ?_); k_extra "mem") | (refine List.mem_append.mpr (.inr ?_); k_extra "mem")
  unfold Ct0
  k_fill
  intro fp9 loose9 mean9 mg9 mb9 dp un gd9 cn9 cs9 fa9 ccd9 cl9 outer9 A9 base9 hz9 L9 m9 s9 Q9 E9 B9 F9 X9 N9 T9 hk9 hd9 hu9 hret
  refine wpAny_call ?_
  k_dflt cell_enter
  k_with "mine call" => (k_dflt (refine' Ct0.use (law_signs_c ?hD ?hn) ?u1 ?u2 ?u3 ?u4 ?u5 ?uK ?ud ?uu ?_; (case u1 => k_asm); (case u2 => k_asm); (case u3 => k_asm); (case u4 => k_asm); (case u5 => k_asm); (case uK => first | exact rfl | assumption); (case ud => ktr_room); (case uu => ktr_units); (case hD => k_extra "mem"); (case hn => assumption); intro r9 h9 tk9 F9 N9 ho9; (first | (obtain ⟨t91, t92, t93, c9, e9⟩ := ho9; subst e9) | (obtain ⟨t9, e9⟩ := ho9; subst e9) | subst ho9 | skip); (try dsimp only); (try k_sweep); (try k_fold)))
  k_with "mine call" => (k_dflt (refine' Ct0.use (law_group_c ?hl ?h4) ?u1 ?u2 ?u3 ?u4 ?u5 ?uK ?ud ?uu ?_; (case u1 => k_asm); (case u2 => k_asm); (case u3 => k_asm); (case u4 => k_asm); (case u5 => k_asm); (case uK => first | exact rfl | assumption); (case ud => ktr_room); (case uu => ktr_units); (case hl => exact seg_Sg _ _ _ _); (case h4 => exact seg_len (by assumption)); intro r9 h9 tk9 F9 N9 ho9; (first | (obtain ⟨t91, t92, t93, c9, e9⟩ := ho9; subst e9) | (obtain ⟨t9, e9⟩ := ho9; subst e9) | subst ho9 | skip); (try dsimp only); (try k_sweep); (try k_fold)))
  k_with "exec While Compare cons nil" => k_dflt (k_while (fun _ sg td => DInv n a b sz sg td) (fun _ sg td => sg.length) "signs" "told"; (rename DInv _ _ _ _ _ _ => h0); (obtain ⟨f9, w9, a9, b9, tl9, h91, h92, e91, e92, h93, h94⟩ := h0.it); subst e91 e92; clear h0)
  k_with "facts" => exact True.intro
  k_with "state" => first | exact DInv.start rfl | exact DInv.step (by assumption) (by assumption) (by assumption) (by assumption) (by assumption) (w_pos (by assumption))
  k_with "measure" => (rw [S_len, S_len, List.length_take, signs_len]; have h9 := w_pos (by assumption); omega)
  k_with "subscriptTail Name Slice str ref" => k_dflt (first
    | (refine' r_from_neg (k := sz) ?hx ?hi ?hk ?hl ?hF ?hN ?_; (case hx => exact rfl); (case hi => exact rfl); (case hk => assumption); (case hl => (rw [signs_len]; omega)); (case hF => k_asm); (case hN => k_asm); (intro h9 t9 c9 F9 N9); (try k_sweep))
    | (refine' r_to_neg (k := sz) ?hx ?hi ?hk ?hl ?hF ?hN ?_; (case hx => exact rfl); (case hi => exact rfl); (case hk => assumption); (case hl => (rw [signs_len]; omega)); (case hF => k_asm); (case hN => k_asm); (intro h9 t9 c9 F9 N9); (try k_sweep)))
  k_with "binaryOp Add str str" => (k_dflt (refine' r_cat ?hx ?hy ?hl ?_; (case hx => exact rfl); (case hy => exact rfl); (case hl => (simp only [List.length_cons, List.length_nil]; omega))); intro t9 tk9)
  k_steps
  exact end0 hret (by k_asm) (by k_asm) (fun p hp => hp) ⟨_, congrArg (Value.str · _) (DInv.done (by assumption) (w_nil (by assumption)))⟩

theorem log2_18' {n : Int} (h : Sm18 n) : n.natAbs.log2 < 1920 := by
  have e2 : (10 : Nat) ^ 18 = 1000000000000000000 := by decide +kernel
  have h1 := h.lt
  rw [e2] at h1
  by_cases h0 : n.natAbs = 0
  · rw [h0]; decide
  · exact Nat.lt_of_lt_of_le ((Nat.log2_lt h0).mpr (Nat.lt_trans h1 (by decide : 1000000000000000000 < 2 ^ 60))) (by decide)
theorem r_str {prog : Program} {w : World} {A : Around} {E : Value → Shared → Prop} {s : Shared} {Q : Value → Shared → Prop} {x : Int} {t : Tok} (hs : Sm18 x) (h : ∀ t' n, Q (.str (S (numL x)) t') { s with toks := n }) : wpAny (model prog w) A (call (.type "str") [.int x t]) Q E s :=
  P.str_of_int (log2_18' hs) (by rw [show Str.ofString (toString x) = S (numL x) from num_S x]; exact h _ _)
theorem sm_a {a : Nat} (ha : Small a) : Sm18 (a : Int) := sm_nat (n := 40) (Nat.le_of_lt ha.lt) (Nat.le_refl _)
theorem sm_neg {n a : Nat} (ha : Small a) (hn : n ≤ 40) : Sm18 ((a : Int) - ((2 ^ n : Nat) : Int)) := by
  refine ⟨?_⟩
  have h1 := ha.lt
  have h2 := two40 hn
  have e1 : (2 : Nat) ^ 40 = 1099511627776 := by decide +kernel
  have e2 : (10 : Nat) ^ 18 = 1000000000000000000 := by decide +kernel
  rw [e1] at h1 h2
  rw [e2]
  generalize 2 ^ n = p at *
  omega
theorem half_iff {a n : Nat} (hn : 0 < n) (ha : a < 2 ^ n) : a / 2 ^ (n - 1) = 1 ↔ 2 ^ (n - 1) ≤ a := by
  have hp := Nat.two_pow_pos (n - 1)
  have e : 2 ^ n = 2 ^ (n - 1) * 2 := by rw [← Nat.pow_succ]; congr 1; omega
  rw [e] at ha
  constructor
  · intro h
    have := Nat.div_mul_le_self a (2 ^ (n - 1))
    rw [h] at this; omega
  · intro h
    exact Nat.div_eq_of_lt_le (by omega) (by rw [show (1 + 1) * 2 ^ (n - 1) = 2 ^ (n - 1) * 2 by omega]; exact ha)
theorem dl_neg {n a b : Nat} {sg : Bool} (h0 : 0 < n) (ha : a < 2 ^ n) (hb : b = 0) (hs : sg = true) (h : ((2 ^ (n - 1) : Nat) : Int) ≤ (a : Int)) : S (numL ((a : Int) - ((2 ^ n : Nat) : Int))) = S (decL n a b sg) := by
  unfold decL numV
  rw [if_pos hb, if_pos ⟨hs, (half_iff h0 ha).mpr (by omega)⟩]
theorem dl_pos {n a b : Nat} {sg : Bool} (h0 : 0 < n) (ha : a < 2 ^ n) (hb : b = 0) (h : ¬ (sg = true ∧ ((2 ^ (n - 1) : Nat) : Int) ≤ (a : Int))) : S (numL (a : Int)) = S (decL n a b sg) := by
  unfold decL numV
  rw [if_pos hb, if_neg (fun q => h ⟨q.1, by have := (half_iff h0 ha).mp q.2; omega⟩)]
theorem dl_un {n a b : Nat} {sg : Bool} {y : Str} {g : Nat} (hb : b ≠ 0) (hy : y = S [g]) (h : g = gsign (signs a b n)) : y = S (decL n a b sg) := by
  unfold decL
  rw [if_neg hb, hy, h]
theorem sg_rep {a b n c : Nat} {x : Bool} (h : (S (signs a b n) == S (List.replicate ((n : Int)).toNat c)) = x) : decide (signs a b n = List.replicate (signs a b n).length c) = x := by
  rw [nat_c] at h
  rw [signs_len]
  exact S_beq h

set_option maxHeartbeats 1000000 in
theorem law_number_c {w : World} {news : List (Addr × Obj)} {D : Addr} {n a b : Nat} {t1 t2 t3 : Tok} {c : Nat} {sg : Bool} (hD : (D, vecO n a b t1 t2 t3 c) ∈ news) (h0 : 0 < n) (hn : n ≤ 40) (ha : Small a) (ha2 : a < 2 ^ n) :
    Ct0 w 217 2 news [.ref D, .bool sg] (fun r => ∃ u, r = .str (S (decL n a b sg)) u) := by
  w_top off
  k_with_none
  k_with "mem" => first | (with_reducible assumption) | exact List.Mem.head _ | (refine List.mem_cons_of_mem _ ?_; k_extra "mem") | (refine List.mem_append.mpr (.inl ?_); k_extra "mem") | (refine List.mem_append.mpr (.inr ?_); k_extra "mem")
  unfold Ct0
  k_fill
  intro fp9 loose9 mean9 mg9 mb9 dp un gd9 cn9 cs9 fa9 ccd9 cl9 outer9 A9 base9 hz9 L9 m9 s9 Q9 E9 B9 F9 X9 N9 T9 hk9 hd9 hu9 hret
  refine wpAny_call ?_
  k_dflt cell_enter
  k_with "mine call" => (k_dflt (refine' Ct0.use (law_signs_c ?hD ?hn) ?u1 ?u2 ?u3 ?u4 ?u5 ?uK ?ud ?uu ?_; (case u1 => k_asm); (case u2 => k_asm); (case u3 => k_asm); (case u4 => k_asm); (case u5 => k_asm); (case uK => first | exact rfl | assumption); (case ud => ktr_room); (case uu => ktr_units); (case hD => k_extra "mem"); (case hn => assumption); intro r9 h9 tk9 F9 N9 ho9; (first | (obtain ⟨t91, t92, t93, c9, e9⟩ := ho9; subst e9) | (obtain ⟨t9, e9⟩ := ho9; subst e9) | subst ho9 | skip); (try dsimp only); (try k_sweep); (try k_fold)))
  k_with "compareOp In str str" => k_dflt (first | refine r_in (c := 120) rfl s_x ?_ | refine r_in (c := 122) rfl s_z ?_)
  k_with "binaryOp Mult str int" => (k_dflt (first | refine' r_mulc (c := 120) s_x ?h1 ?h2 ?_ | refine' r_mulc (c := 122) s_z ?h1 ?h2 ?_); (case h1 => omega); (case h2 => omega); intro t9 tk9)
  k_with "call type:str" => (k_dflt (refine' r_str ?h ?_; (case h => first | exact sm_a (by assumption) | exact sm_neg (by assumption) (by assumption))); intro t9 tk9)
  k_steps
  all_goals refine end0 hret (by k_asm) (by k_asm) (fun p hp => hp) ⟨_, congrArg (Value.str · _) ?_⟩
  · refine dl_un (by omega) s_x ?_
    rw [gsign_eq, if_pos (by assumption), if_pos (of_decide_eq_true (sg_rep (by assumption)))]
  · refine dl_un (by omega) s_X ?_
    rw [gsign_eq, if_pos (by assumption), if_neg (of_decide_eq_false (sg_rep (by assumption)))]
  · refine dl_un (by omega) s_z ?_
    rw [gsign_eq, if_neg (by assumption), if_pos (of_decide_eq_true (sg_rep (by assumption)))]
  · refine dl_un (by omega) s_Z ?_
    rw [gsign_eq, if_neg (by assumption), if_neg (of_decide_eq_false (sg_rep (by assumption)))]
  · exact dl_neg h0 ha2 (by omega) (by assumption) (by assumption)
  · exact dl_pos h0 ha2 (by omega) (fun q => absurd q.2 (by assumption))
  · exact dl_pos h0 ha2 (by omega) (fun q => by simp_all)

/-- the octets of w bits of r, the highest first -/
noncomputable def octW : Nat → Nat → Nat → List Nat
  | 0, _, _ => []
  | f + 1, w, r => if w = 0 then [] else octW f (w - 8) (r / 2 ^ 8) ++ [r % 2 ^ (min 8 w)]
noncomputable def strip00 : List Nat → List Nat
  | [] => []
  | c :: r => if c = 0 then strip00 r else c :: r
/-- the signs of a vector with its unknown bits as noughts -/
noncomputable def zeroed (a b n : Nat) : List Nat := rep 122 48 (rep 120 48 (signs a b n))

set_option maxHeartbeats 1000000 in
theorem law_blanks_c {w : World} {news : List (Addr × Obj)} {l : List Nat} {i : Int} {t1 t2 : Tok} (hl : l.length ≤ 1000) (h1 : -1 ≤ i) (h2 : i ≤ 1000) :
    Ct0 w 231 1 news [.str (S l) t1, .int i t2] (fun r => ∃ u, r = .str (S (padL 32 i l)) u) := by
  w_top off
  k_with_none
  k_with "mem" => first | (with_reducible assumption) | exact List.Mem.head _ | (refine List.mem_cons_of_mem _ ?_; k_extra "mem") | (refine List.mem_append.mpr (.inl ?_); k_extra "mem") | (refine List.mem_append.mpr (.inr ?_); k_extra "mem")
  unfold Ct0
  k_fill
  intro fp9 loose9 mean9 mg9 mb9 dp un gd9 cn9 cs9 fa9 ccd9 cl9 outer9 A9 base9 hz9 L9 m9 s9 Q9 E9 B9 F9 X9 N9 T9 hk9 hd9 hu9 hret
  refine wpAny_call ?_
  k_dflt cell_enter
  k_with "call builtin:len" => (k_dflt (refine' r_len ?hx ?hl ?_; (case hx => exact rfl); (case hl => omega)); intro t9 tk9)
  k_with "binaryOp Mult str int" => (k_dflt (refine' r_mulc (c := 32) ?hx ?h1 ?h2 ?_; (case hx => decide +kernel); (case h1 => omega); (case h2 => omega)); intro t9 tk9)
  k_with "binaryOp Add str str" => (k_dflt (refine' r_cat ?hx ?hy ?hl ?_; (case hx => exact rfl); (case hy => exact rfl); (case hl => (rw [List.length_replicate]; omega))); intro t9 tk9)
  k_steps
  refine end0 hret (by k_asm) (by k_asm) (fun p hp => hp) ⟨_, congrArg (fun n => Value.str (S (List.replicate n 32 ++ l)) _) ?_⟩
  omega
theorem TInv.step2 {l p q : List Nat} {pre post : List Int} {n : Nat} (e1 : l = p ++ q) (e2 : pre = p.map (fun (c : Nat) => (c : Int))) (h : KStt.codes (S l) = pre ++ (n : Int) :: post) : TInv l (pre ++ [(n : Int)]) ((256 * tval p + n : Nat) : Int) := by
  obtain ⟨r, rfl⟩ := split_codes e1 e2 h
  exact ⟨p ++ [n], r, by rw [e1]; simp, by rw [e2]; simp, by rw [tval_snoc, Nat.mul_comm]⟩

set_option maxHeartbeats 1000000 in
theorem law_text_arg_c {w : World} {news : List (Addr × Obj)} {l : List Nat} {t : Tok} (O : Oct l) :
    CtT w 238 1 news [.str (S l) t] (fun o => ∃ t1 t2 t3 c, o = vecO (8 * max l.length 1) (tval l) 0 t1 t2 t3 c) := by
  w_top off
  k_with_none
  k_with "mem" => first | (with_reducible assumption) | exact List.Mem.head _ | (refine List.mem_cons_of_mem _ ?_; k_extra "mem") | (refine List.mem_append.mpr (.inl ?_); k_extra "mem") | (refine List.mem_append.mpr (.inr ?_); k_extra "mem")
  unfold CtT
  k_fill
  intro fp9 loose9 mean9 mg9 mb9 dp un gd9 cn9 cs9 fa9 ccd9 cl9 outer9 A9 base9 hz9 L9 m9 s9 Q9 E9 B9 F9 X9 N9 T9 hk9 hd9 hu9 hret
  refine wpAny_call ?_
  k_dflt cell_enter
  have hl9 := O.short
  k_with "pyIter str" => k_dflt (k_state (fun pre v => TInv l pre v) "total" <;> ((rename TInv _ _ _ => h0); first | (have h1 := TInv.done h0; subst h1; clear h0) | (obtain ⟨p9, q9, e91, e92, e93⟩ := h0.it; subst e93; clear h0)))
  k_with "call builtin:len" => (k_dflt (refine' r_len ?hx ?hl ?_; (case hx => with_reducible rfl); (case hl => omega)); intro t9 tk9)
  k_with "facts" => exact True.intro
  k_with "state" => first | exact TInv.start | exact TInv.step2 (by assumption) (by assumption) (by assumption)
  k_steps
  exact hret _ _ _ _ (by k_asm) (by k_asm) (by assumption) ⟨_, _, _, _, vecI_eq (by omega) rfl rfl⟩

local macro_rules | `(tactic| walk_at "exec For Name Subscript cons nil") => `(tactic| ((rename Fr _ _ _ _ => lF'); (with_unfolding_all refine' For_invVF lF' ?k1 ?k2 ?_; (case k1 => exact rfl); (case k2 => exact rfl); k_whole)))
local macro_rules | `(tactic| walk_at "execs cons") => `(tactic| k_extra "execs cons")
theorem s_0 : Str.ofString "0" = S [48] := by decide +kernel
theorem zero_bit (i : Nat) : bit 0 i = 0 := by unfold bit; simp
theorem eq_bits {x y n : Nat} (hx : x < 2 ^ n) (hy : y < 2 ^ n) (h : ∀ i, i < n → bit x i = bit y i) : x = y := by
  refine Nat.eq_of_testBit_eq fun i => ?_
  have e : ∀ x, (x.testBit i) = decide (bit x i = 1) := fun x => by rw [Nat.testBit_eq_decide_div_mod_eq]; rfl
  rw [e, e]
  by_cases hi : i < n
  · rw [h i hi]
  · have h2 : ∀ x, x < 2 ^ n → bit x i = 0 := fun x hx => by
      unfold bit
      rw [Nat.div_eq_of_lt (Nat.lt_of_lt_of_le hx (Nat.pow_le_pow_right (by decide) (by omega)))]
    rw [h2 x hx, h2 y hy]
theorem bit_and' (x y i : Nat) : bit (x &&& y) i = bit x i * bit y i := by
  have e : ∀ x, bit x i = (x.testBit i).toNat := fun x => by
    unfold bit
    rw [Nat.testBit_eq_decide_div_mod_eq]
    by_cases q : x / 2 ^ i % 2 = 1
    · rw [q]; rfl
    · rw [decide_eq_false q, show x / 2 ^ i % 2 = 0 by omega]; rfl
  rw [e, e, e, Nat.testBit_and]
  cases x.testBit i <;> cases y.testBit i <;> rfl
theorem bit_xor' (x y i : Nat) : bit (x ^^^ y) i = (bit x i + bit y i) % 2 := by
  have e : ∀ x, bit x i = (x.testBit i).toNat := fun x => by
    unfold bit
    rw [Nat.testBit_eq_decide_div_mod_eq]
    by_cases q : x / 2 ^ i % 2 = 1
    · rw [q]; rfl
    · rw [decide_eq_false q, show x / 2 ^ i % 2 = 0 by omega]; rfl
  rw [e, e, e, Nat.testBit_xor]
  cases x.testBit i <;> cases y.testBit i <;> rfl
theorem bit_mask {n i : Nat} (h : i < n) : bit (2 ^ n - 1) i = 1 := by
  unfold bit
  have h1 := Nat.testBit_two_pow_sub_one n i
  rw [Nat.testBit_eq_decide_div_mod_eq, decide_eq_true h] at h1
  exact of_decide_eq_true h1
theorem bit_known {n a b i : Nat} (h : i < n) : bit (known n a b) i = bit a i * (1 - bit b i) := by
  unfold known
  rw [bit_and', bit_xor', bit_mask h]
  rcases bit_lt b i with h2 | h2 <;> rw [h2]
theorem known_lt2 {n a b : Nat} (h : a < 2 ^ n) : known n a b < 2 ^ n := Nat.lt_of_le_of_lt Nat.and_le_left h
theorem zeroed_eq (a b m : Nat) : ∀ n, n ≤ m → zeroed a b n = signs (known m a b) 0 n
  | 0, _ => rfl
  | n + 1, h => by
    have ih := zeroed_eq a b m n (by omega)
    show (if (if sgn (cd a b n) = 120 then 48 else sgn (cd a b n)) = 122 then 48 else (if sgn (cd a b n) = 120 then 48 else sgn (cd a b n))) :: zeroed a b n = sgn (cd (known m a b) 0 n) :: signs (known m a b) 0 n
    rw [ih]
    congr 1
    unfold cd
    rw [bit_known (by omega), zero_bit]
    rcases bit_lt a n with h1 | h1 <;> rcases bit_lt b n with h2 | h2 <;> rw [h1, h2] <;> rfl
theorem signs0_bin (r : Nat) : ∀ n, ∀ c ∈ signs r 0 n, c = 48 ∨ c = 49
  | 0, _, h => nomatch h
  | n + 1, c, h => by
    rcases List.mem_cons.mp h with rfl | h
    · unfold cd
      rw [zero_bit]
      rcases bit_lt r n with h2 | h2 <;> rw [h2]
      · exact .inl rfl
      · exact .inr rfl
    · exact signs0_bin r n c h
theorem seg0_bin (r w k : Nat) : ∀ c ∈ (signs r 0 w).drop ((signs r 0 w).length - k), c = 48 ∨ c = 49 := by
  rw [signs_len, signs_last]; exact signs0_bin r _
theorem seg0_val (r w : Nat) : bval ((signs r 0 w).drop ((signs r 0 w).length - 8)) = r % 2 ^ (min 8 w) := by
  rw [signs_len, signs_last, bval_signs (fun i _ => zero_bit i)]
theorem seg0_lt (r w : Nat) : bval ((signs r 0 w).drop ((signs r 0 w).length - 8)) ≤ 1114111 := by
  rw [seg0_val]
  exact Nat.le_trans (Nat.le_of_lt (Nat.mod_lt _ (Nat.two_pow_pos _))) (Nat.le_trans (Nat.pow_le_pow_right (by decide) (Nat.min_le_left 8 w)) (by decide))
structure CInv (n R : Nat) (sg td : Str) : Prop where
  it : ∃ (f w r : Nat) (tl : List Nat), w ≤ n ∧ w ≤ f ∧ sg = S (signs r 0 w) ∧ td = S tl ∧ tl.length + w ≤ n ∧ octW n n R = octW f w r ++ tl
theorem CInv.start {n a b : Nat} {td : Str} (h : td = Str.ofString "") : CInv n (known n a b) (S (rep 122 48 (rep 120 48 (signs a b n)))) td :=
  ⟨n, n, known n a b, [], Nat.le_refl _, Nat.le_refl _, congrArg S (zeroed_eq a b n n (Nat.le_refl n)), by rw [h, s_empty]; rfl, by simp, by simp⟩
theorem CInv.step {n R f w r : Nat} {tl : List Nat} (h1 : w ≤ n) (h2 : w ≤ f) (h3 : tl.length + w ≤ n) (h4 : octW n n R = octW f w r ++ tl) (hw : 0 < w) :
    CInv n R (S ((signs r 0 w).take ((signs r 0 w).length - 8))) (S ([bval ((signs r 0 w).drop ((signs r 0 w).length - 8))] ++ tl)) := by
  obtain ⟨f', rfl⟩ : ∃ f', f = f' + 1 := ⟨f - 1, by omega⟩
  rw [seg0_val, signs_len, signs_first, Nat.zero_div]
  refine ⟨f', w - 8, r / 2 ^ 8, [r % 2 ^ (min 8 w)] ++ tl, by omega, by omega, rfl, rfl, by simp only [List.length_append, List.length_cons, List.length_nil]; omega, ?_⟩
  rw [h4, octW, if_neg (by omega), List.append_assoc]
structure NInv (n : Nat) (l0 : List Nat) (td : Str) : Prop where
  it : ∃ l : List Nat, td = S l ∧ l.length ≤ n ∧ strip00 l0 = strip00 l
theorem NInv.start {n R f w r : Nat} {tl : List Nat} (h4 : octW n n R = octW f w r ++ tl) (hw : w = 0) (h3 : tl.length + w ≤ n) : NInv n (octW n n R) (S tl) := by
  subst hw
  have e2 : octW f 0 r = [] := by cases f <;> simp [octW]
  rw [e2, List.nil_append] at h4
  exact ⟨tl, rfl, by omega, by rw [h4]⟩
theorem take1 {l : List Nat} {b : Bool} (h : (S (l.take 1) == S [0]) = b) : decide (l.take 1 = [0]) = b := S_beq h
theorem NInv.step {n : Nat} {l0 l : List Nat} (h1 : l.length ≤ n) (h2 : strip00 l0 = strip00 l) (h : (S (l.take 1) == S [0]) = true) : NInv n l0 (S (l.drop 1)) := by
  have h3 := of_decide_eq_true (take1 h)
  match l, h3 with
  | c :: r, h3 =>
    have e : c = 0 := by simpa using h3
    subst e
    exact ⟨r, rfl, by simp only [List.length_cons] at h1; omega, by rw [h2]; rfl⟩
theorem NInv.lt {l : List Nat} (h : (S (l.take 1) == S [0]) = true) : 0 < l.length := by
  have h3 := of_decide_eq_true (take1 h)
  match l, h3 with
  | c :: r, _ => simp
theorem NInv.done {l0 l : List Nat} (h2 : strip00 l0 = strip00 l) (h : (S (l.take 1) == S [0]) = false) : S l = S (strip00 l0) := by
  have h3 := of_decide_eq_false (take1 h)
  rw [h2]
  match l, h3 with
  | [], _ => rfl
  | c :: r, h3 =>
    have e : ¬ c = 0 := by simpa using h3
    rw [strip00, if_neg e]

set_option maxHeartbeats 2000000 in
theorem law_octets_c {w : World} {news : List (Addr × Obj)} {D : Addr} {n a b : Nat} {t1 t2 t3 : Tok} {c : Nat} (hD : (D, vecO n a b t1 t2 t3 c) ∈ news) (hn : n ≤ 40) :
    Ct0 w 224 2 news [.ref D] (fun r => ∃ u, r = .str (S (strip00 (octW n n (known n a b)))) u) := by
  w_top off
  k_with_none
  k_with "mem" => first | (with_reducible assumption) | exact List.Mem.head _ | (refine List.mem_cons_of_mem _ ?_; k_extra "mem") | (refine List.mem_append.mpr (.inl ?_); k_extra "mem") | (refine List.mem_append.mpr (.inr ?_); k_extra "mem")
  unfold Ct0
  k_fill
  intro fp9 loose9 mean9 mg9 mb9 dp un gd9 cn9 cs9 fa9 ccd9 cl9 outer9 A9 base9 hz9 L9 m9 s9 Q9 E9 B9 F9 X9 N9 T9 hk9 hd9 hu9 hret
  refine wpAny_call ?_
  k_dflt cell_enter
  k_with "mine call" => (k_dflt (refine' Ct0.useP (law_signs_c ?hD ?hn) ?u1 ?u2 ?u3 ?u4 ?u5 ?uK ?ud ?uu ?_; (case u1 => k_asm); (case u2 => k_asm); (case u3 => k_asm); (case u4 => k_asm); (case u5 => k_asm); (case uK => first | exact rfl | assumption); (case ud => ktr_room); (case uu => ktr_units); (case hD => k_extra "mem"); (case hn => assumption); intro r9 h9 tk9 hle9 F9 N9 ho9; (first | (obtain ⟨t91, t92, t93, c9, e9⟩ := ho9; subst e9) | (obtain ⟨t9, e9⟩ := ho9; subst e9) | subst ho9 | skip); (try dsimp only at hle9 ⊢); (try k_sweep); (try k_fold)))
  k_with "call builtin:str.replace" => k_dflt (first
    | (refine' r_replaceN (c := 120) (d := 48) ?hx s_x s_0 ?hcd ?h1 ?h3 ?hl ?_; (case hx => exact rfl); (case hcd => decide); (case h1 => exact Nat.le_trans (Nat.le_add_left 1 _) hle9); (case h3 => exact Nat.lt_succ_self _); (case hl => (rw [signs_len]; omega)); (intro t8 n8 hle8); (try dsimp only at hle8 ⊢))
    | (refine' r_replaceN (c := 122) (d := 48) ?hx s_z s_0 ?hcd ?h1 ?h3 ?hl ?_; (case hx => exact rfl); (case hcd => decide); (case h1 => exact Nat.le_trans (Nat.le_add_left 1 _) hle8); (case h3 => exact Nat.lt_succ_self _); (case hl => (unfold rep; rw [List.length_map, signs_len]; omega)); (intro t7 n7 hle7); (try dsimp only at hle7 ⊢)))
  k_with "execs cons" => ((with_reducible refine wpAny_execs_cons ?_); (try dsimp only))
  k_with "exec While Compare cons nil" => k_dflt (k_while (fun _ sg td => CInv n (known n a b) sg td) (fun _ sg td => sg.length) "signs" "told"; (rename CInv _ _ _ _ => h0); (obtain ⟨f9, w9, q9, tl9, h91, h92, e91, e92, h93, h94⟩ := h0.it); subst e91 e92; clear h0)
  k_with "exec While Compare cons nil" => k_dflt (k_while (fun _ td => NInv n (octW n n (known n a b)) td) (fun _ td => td.length) "told"; (rename NInv _ _ _ => h0); (obtain ⟨l9, e91, h95, h96⟩ := h0.it); subst e91; clear h0)
  k_with "pyIter str" => k_dflt (k_state (fun pre v => VInv ((signs q9 0 w9).drop ((signs q9 0 w9).length - 8)) pre v) "total" <;> ((rename VInv _ _ _ => h0); first | (have h1 := VInv.done h0; subst h1; clear h0) | (obtain ⟨p9, r9, e95, e96, e97⟩ := h0.it; subst e97; clear h0)))
  k_with "facts" => exact True.intro
  k_with "state" => first | exact CInv.start rfl | exact CInv.step (by assumption) (by assumption) (by assumption) (by assumption) (by assumption) (w_pos (by assumption)) | exact NInv.start (by assumption) (w_nil (by assumption)) (by assumption) | exact NInv.step (by assumption) (by assumption) (by assumption)
  k_with "measure" => first | (rw [S_len, S_len, List.length_take, signs_len]; have h9 := w_pos (by assumption); omega) | (rw [S_len, S_len, List.length_drop]; have h9 := NInv.lt (by assumption); omega)
  k_with "call builtin:chr" => (k_dflt (first | (refine' n_chr (r := 0) ?hx ?hr ?_; (case hx => exact lit0); (case hr => decide)) | (refine' n_chr ?hx ?hr ?_; (case hx => with_reducible rfl); (case hr => exact seg0_lt _ _))); intro t9 k9)
  k_with "call builtin:str.index" => (k_dflt (refine' r_index01 lit_01 ?hy ?hc ?_; (case hy => exact rfl); (case hc => exact seg0_bin _ _ _ _ (code_mem (by assumption) (by assumption) (by assumption)))))
  k_with "state" => first | exact VInv.start | exact VInv.step (by assumption) (by assumption) (by assumption)
  k_with "subscriptTail Name Slice str ref" => k_dflt (first
    | (refine' r_from_neg (k := 8) ?hx ?hi ?hk ?hl ?hF ?hN ?_; (case hx => exact rfl); (case hi => exact rfl); (case hk => decide); (case hl => (rw [signs_len]; omega)); (case hF => k_asm); (case hN => k_asm); (intro h9 t9 c9 F9 N9); (try k_sweep))
    | (refine' r_to_neg (k := 8) ?hx ?hi ?hk ?hl ?hF ?hN ?_; (case hx => exact rfl); (case hi => exact rfl); (case hk => decide); (case hl => (rw [signs_len]; omega)); (case hF => k_asm); (case hN => k_asm); (intro h9 t9 c9 F9 N9); (try k_sweep))
    | (refine' r_from (k := 1) ?hx ?hi ?hl ?hF ?hN ?_; (case hx => exact rfl); (case hi => exact lit1); (case hl => omega); (case hF => k_asm); (case hN => k_asm); (intro h9 t9 c9 F9 N9); (try k_sweep))
    | (refine' r_to (k := 1) ?hx ?hi ?hl ?hF ?hN ?_; (case hx => exact rfl); (case hi => exact lit1); (case hl => omega); (case hF => k_asm); (case hN => k_asm); (intro h9 t9 c9 F9 N9); (try k_sweep)))
  k_with "binaryOp Add str str" => (k_dflt (refine' r_cat ?hx ?hy ?hl ?_; (case hx => exact rfl); (case hy => exact rfl); (case hl => (simp only [List.length_cons, List.length_nil]; omega))); intro t9 tk9)
  k_steps
  · k_with "state" => exact CInv.step h91 h92 h93 h94 (w_pos (by assumption))
    ksw_close
  exact end0 hret (by k_asm) (by k_asm) (fun p hp => hp) ⟨_, congrArg (Value.str · _) (NInv.done (by assumption) (by assumption))⟩

-- nolocal
theorem signs_split (a b w : Nat) (h : 0 < w) : signs a b w = signs (a / 2 ^ 1) (b / 2 ^ 1) (w - 1) ++ signs a b (min 1 w) := by
  rw [← signs_first a b w 1, ← signs_last a b w 1, List.take_append_drop]
theorem dig_one (a b : Nat) : signs a b 1 = [dig 1 a b] := by
  rw [← gval_signs]
  show [sgn (cd a b 0)] = [gval [sgn (cd a b 0)]]
  have h := cd_lt a b 0
  generalize cd a b 0 = x at h
  have : x = 0 ∨ x = 1 ∨ x = 2 ∨ x = 3 := by omega
  rcases this with rfl | rfl | rfl | rfl <;> decide +kernel
theorem digits_one : ∀ f w a b, w ≤ f → digits 1 f w a b = signs a b w
  | 0, w, a, b, h => by
    have : w = 0 := by omega
    subst this; rfl
  | f + 1, w, a, b, h => by
    rw [digits]
    split
    · rename_i q; subst q; rfl
    · rename_i q
      rw [digits_one f (w - 1) _ _ (by omega), signs_split a b w (by omega), show min 1 w = 1 by omega, dig_one]
theorem bit_big {x m i : Nat} (h : x < 2 ^ m) (hi : m ≤ i) : bit x i = 0 := by
  unfold bit
  rw [Nat.div_eq_of_lt (Nat.lt_of_lt_of_le h (Nat.pow_le_pow_right (by decide) hi))]
theorem lowB_lt (a b : Nat) : lowB a b < 2 ^ 8 := Nat.lt_of_le_of_lt (Nat.le_trans Nat.and_le_left Nat.and_le_right) (by decide)
theorem lowB_bit {a b i : Nat} (h : i < 8) : bit (lowB a b) i = bit a i * (1 - bit b i) := by
  unfold lowB
  rw [bit_and', bit_and', bit_xor', bit_and', show (255 : Nat) = 2 ^ 8 - 1 by decide, bit_mask h]
  rcases bit_lt b i with h2 | h2 <;> rw [h2] <;> simp
theorem lowB_eq {a b n : Nat} (ha : a < 2 ^ n) : known (min 8 n) a b % 2 ^ (min 8 n) = lowB a b := by
  refine eq_bits (n := 8) (Nat.lt_of_lt_of_le (Nat.mod_lt _ (Nat.two_pow_pos _)) (Nat.pow_le_pow_right (by decide) (Nat.min_le_left 8 n))) (lowB_lt a b) fun i hi => ?_
  rw [lowB_bit hi]
  by_cases h : i < min 8 n
  · rw [bit_mod h, bit_known h]
  · rw [bit_big (Nat.mod_lt _ (Nat.two_pow_pos _)) (Nat.le_of_not_lt h), bit_big ha (by omega), Nat.zero_mul]
/-- the last eight signs with noughts for the unknown ones -/
noncomputable def lowL (a b n : Nat) : List Nat := rep 122 48 (rep 120 48 ((signs a b n).drop ((signs a b n).length - 8)))
theorem lowL_eq (a b n : Nat) : lowL a b n = signs (known (min 8 n) a b) 0 (min 8 n) := by
  unfold lowL
  rw [signs_len, signs_last]
  exact zeroed_eq a b (min 8 n) (min 8 n) (Nat.le_refl _)
theorem lowL_bin (a b n : Nat) : ∀ c ∈ lowL a b n, c = 48 ∨ c = 49 := by rw [lowL_eq]; exact signs0_bin _ _
theorem lowL_val {a b n : Nat} (ha : a < 2 ^ n) : bval (lowL a b n) = lowB a b := by
  rw [lowL_eq, bval_signs (fun i _ => zero_bit i), lowB_eq ha]
theorem lowL_le {a b n : Nat} (ha : a < 2 ^ n) : bval (lowL a b n) ≤ 1114111 := by rw [lowL_val ha]; exact lowB_le a b
theorem strip00_snoc (c : Nat) : ∀ l, strip00 (l ++ [c]) = if strip00 l = [] then (if c = 0 then [] else [c]) else strip00 l ++ [c]
  | [] => by
    show (if c = 0 then strip00 [] else [c]) = _
    rfl
  | d :: r => by
    show (if d = 0 then strip00 (r ++ [c]) else d :: (r ++ [c])) = if (if d = 0 then strip00 r else d :: r) = [] then _ else (if d = 0 then strip00 r else d :: r) ++ [c]
    by_cases h : d = 0
    · simp only [if_pos h]; exact strip00_snoc c r
    · simp only [if_neg h]; rfl
theorem octs_zero (g : Nat) : octs g 0 = [] := by cases g <;> simp [octs]
theorem octs_pos {g r : Nat} (h : r ≠ 0) : octs (g + 1) r ≠ [] := by
  rw [octs, if_neg h]; simp
theorem strip_octW : ∀ f w g R, w ≤ f → w ≤ 8 * g → R < 2 ^ w → strip00 (octW f w R) = octs g R
  | 0, w, g, R, h1, h2, h3 => by
    have e : w = 0 := by omega
    subst e
    have e : R = 0 := by simpa using h3
    subst e
    rw [octs_zero]; rfl
  | f + 1, w, g, R, h1, h2, h3 => by
    by_cases e : w = 0
    · subst e
      have e : R = 0 := by simpa using h3
      subst e
      rw [octs_zero]; rfl
    · obtain ⟨g', rfl⟩ : ∃ g', g = g' + 1 := ⟨g - 1, by omega⟩
      have q1 : R % 2 ^ (min 8 w) = R % 256 := by
        by_cases q : 8 ≤ w
        · rw [Nat.min_eq_left q]
        · rw [Nat.min_eq_right (by omega), Nat.mod_eq_of_lt h3, Nat.mod_eq_of_lt (Nat.lt_of_lt_of_le h3 (Nat.pow_le_pow_right (n := 2) (by decide) (by omega : w ≤ 8)))]
      have q2 : R / 2 ^ 8 < 2 ^ (w - 8) := by
        by_cases q : 8 ≤ w
        · rw [Nat.div_lt_iff_lt_mul (by decide), ← Nat.pow_add, show w - 8 + 8 = w by omega]; exact h3
        · rw [Nat.div_eq_of_lt (Nat.lt_of_lt_of_le h3 (Nat.pow_le_pow_right (by decide) (by omega : w ≤ 8)))]; exact Nat.two_pow_pos _
      have ih := strip_octW f (w - 8) g' (R / 2 ^ 8) (by omega) (by omega) q2
      rw [octW, if_neg e, strip00_snoc, ih, q1, octs]
      show (if octs g' (R / 256) = [] then _ else _) = _
      by_cases z : R = 0
      · subst z
        rw [show (0 : Nat) / 256 = 0 by rfl, octs_zero]; rfl
      · rw [if_neg z]
        by_cases z2 : R / 256 = 0
        · rw [z2, octs_zero, if_pos rfl, if_neg (by omega)]; rfl
        · have q3 : w - 8 ≠ 0 := by
            intro q4
            rw [q4] at q2
            have : R / 256 < 1 := q2
            omega
          obtain ⟨g'', rfl⟩ : ∃ g'', g' = g'' + 1 := ⟨g' - 1, by omega⟩
          rw [if_neg (octs_pos z2)]
theorem octs_eq {n a b : Nat} (hn : n ≤ 40) (ha : a < 2 ^ n) : strip00 (octW n n (known n a b)) = octs 8 (known n a b) :=
  strip_octW n n 8 _ (Nat.le_refl n) (by omega) (known_lt2 ha)
structure HInv (l : List Nat) (sh : Str) : Prop where
  it : ∃ l' : List Nat, sh = S l' ∧ l'.length ≤ l.length ∧ strip0 l = strip0 l'
theorem HInv.start {l : List Nat} : HInv l (S l) := ⟨l, rfl, Nat.le_refl _, rfl⟩
theorem chr48 {c : Nat} {x : Bool} (h : (S [c] == Str.ofString "0") = x) : decide ([c] = [48]) = x := by rw [s_0] at h; exact S_beq h
theorem HInv.step {l l' : List Nat} {c : Nat} (h1 : l'.length ≤ l.length) (h2 : strip0 l = strip0 l') (h3 : 1 < (l'.length : Int)) (h4 : l'[0]? = some c) (h5 : (S [c] == Str.ofString "0") = true) : HInv l (S (l'.drop 1)) := by
  have h6 := of_decide_eq_true (chr48 h5)
  match l', h3, h4 with
  | d :: e :: r, _, h4 =>
    have e1 : d = c := by simpa using h4
    have e2 : c = 48 := by simpa using h6
    refine ⟨e :: r, rfl, ?_, ?_⟩
    · simp only [List.length_cons] at h1 ⊢; omega
    · rw [h2, strip0, if_pos (by omega)]
theorem HInv.done1 {l l' : List Nat} (h2 : strip0 l = strip0 l') (h3 : ¬ 1 < (l'.length : Int)) : l' = strip0 l := by
  rw [h2]
  match l', h3 with
  | [], _ => rfl
  | [c], _ => rfl
  | c :: d :: r, h => exact absurd (by simp only [List.length_cons]; omega) h
theorem HInv.done2 {l l' : List Nat} {c : Nat} (h2 : strip0 l = strip0 l') (h4 : l'[0]? = some c) (h5 : (S [c] == Str.ofString "0") = false) : l' = strip0 l := by
  rw [h2]
  have h6 := of_decide_eq_false (chr48 h5)
  match l', h4 with
  | [d], _ => rfl
  | d :: e :: r, h4 =>
    have e1 : d = c := by simpa using h4
    have e2 : ¬ d = 48 := by rw [e1]; simpa using h6
    rw [strip0, if_neg e2]
theorem get_lt0 {l : List Nat} (h : 1 < (l.length : Int)) : l[0]? = some (l.getD 0 0) := by
  have hi : 0 < l.length := by omega
  simp [List.getD, hi]
theorem kysD_of {K : Type} [DecidableEq K] {enc : K → PyData} {k : K} {dv : PyData} {D : List (PyData × PyData)} {C : PyData → Prop} {N : Prop} (e : PySem.Spec.lookup (enc k) D = some dv) (h : C dv) : KysD enc k D C N := by
  unfold KysD; rw [e]; exact h
/-- the letters' table of the program, as data -/
def tabD : List (PyData × PyData) := [(.str (Str.ofString "b"), .int 1), (.str (Str.ofString "o"), .int 3), (.str (Str.ofString "h"), .int 4), (.str (Str.ofString "x"), .int 4)]
theorem lk_hit {k a b : PyData} {r : List (PyData × PyData)} (h : PySem.Spec.same a k = true) : PySem.Spec.lookup k ((a, b) :: r) = some b := by rw [PySem.Spec.lookup, if_pos h]
theorem lk_miss {k a b : PyData} {r : List (PyData × PyData)} (h : PySem.Spec.same a k = false) : PySem.Spec.lookup k ((a, b) :: r) = PySem.Spec.lookup k r := by rw [PySem.Spec.lookup, if_neg (by rw [h]; decide)]
theorem tab_b : PySem.Spec.lookup (PyData.str (S [98])) tabD = some (.int 1) := lk_hit (by decide +kernel)
theorem tab_o : PySem.Spec.lookup (PyData.str (S [111])) tabD = some (.int 3) := (lk_miss (by decide +kernel)).trans (lk_hit (by decide +kernel))
theorem tab_h : PySem.Spec.lookup (PyData.str (S [104])) tabD = some (.int 4) := (lk_miss (by decide +kernel)).trans ((lk_miss (by decide +kernel)).trans (lk_hit (by decide +kernel)))
theorem tab_x : PySem.Spec.lookup (PyData.str (S [120])) tabD = some (.int 4) := (lk_miss (by decide +kernel)).trans ((lk_miss (by decide +kernel)).trans ((lk_miss (by decide +kernel)).trans (lk_hit (by decide +kernel))))
theorem kys_tab {x : Str} {m : Int} {t1 t2 t3 t4 u1 u2 u3 u4 : Tok} {C : PyData → Prop} {N : Prop} (e : PySem.Spec.lookup (PyData.str x) tabD = some (.int m)) (h : C (.int m)) :
    KysD PyData.str x (strData [(.str (Str.ofString "b") t1, .int 1 u1), (.str (Str.ofString "o") t2, .int 3 u2), (.str (Str.ofString "h") t3, .int 4 u3), (.str (Str.ofString "x") t4, .int 4 u4)]) C N :=
  kysD_of (D := tabD) e h
theorem kys_tabV {x : Str} {m : Int} {sz : Nat} {t1 t2 t3 t4 u1 u2 u3 u4 : Tok} {R : Value → Prop} {N : Prop} (e : PySem.Spec.lookup (PyData.str x) tabD = some (.int m)) (hm : m = (sz : Int)) (h : ∀ t, R (.int (sz : Int) t)) :
    KysD PyData.str x (strData [(.str (Str.ofString "b") t1, .int 1 u1), (.str (Str.ofString "o") t2, .int 3 u2), (.str (Str.ofString "h") t3, .int 4 u3), (.str (Str.ofString "x") t4, .int 4 u4)]) (fun dv => KysVal dv R) N :=
  kys_tab e (KysVal.intro fun v hv => by obtain ⟨t, rfl⟩ := PyProof.V.Flat.int_inv hv; subst hm; exact h t)
structure Kd (k sz : Nat) : Prop where
  it : (k = 98 ∧ sz = 1) ∨ (k = 111 ∧ sz = 3) ∨ (k = 104 ∧ sz = 4) ∨ (k = 120 ∧ sz = 4)
theorem Kd.pos {k sz : Nat} (K : Kd k sz) : 0 < sz := by rcases K.it with ⟨_, rfl⟩ | ⟨_, rfl⟩ | ⟨_, rfl⟩ | ⟨_, rfl⟩ <;> decide
theorem Kd.le {k sz : Nat} (K : Kd k sz) : sz ≤ 4 := by rcases K.it with ⟨_, rfl⟩ | ⟨_, rfl⟩ | ⟨_, rfl⟩ | ⟨_, rfl⟩ <;> decide
theorem Kd.ne {k sz : Nat} (K : Kd k sz) : k ≠ 115 := by rcases K.it with ⟨rfl, _⟩ | ⟨rfl, _⟩ | ⟨rfl, _⟩ | ⟨rfl, _⟩ <;> decide
theorem Kd.tab {k sz : Nat} (K : Kd k sz) : PySem.Spec.lookup (PyData.str (S [k])) tabD = some (.int (sz : Int)) := by
  rcases K.it with ⟨rfl, rfl⟩ | ⟨rfl, rfl⟩ | ⟨rfl, rfl⟩ | ⟨rfl, rfl⟩
  · exact tab_b
  · exact tab_o
  · exact tab_h
  · exact tab_x
theorem Kd.no {k sz d : Nat} (K : Kd k sz) (hd : (d != 98 && d != 111 && d != 104 && d != 120) = true) : (S [k] == S [d]) = false := by
  refine S_ne1 fun e => ?_
  subst e
  rcases K.it with ⟨rfl, _⟩ | ⟨rfl, _⟩ | ⟨rfl, _⟩ | ⟨rfl, _⟩ <;> simp at hd
theorem Kd.no_s {k sz : Nat} (K : Kd k sz) : (S [k] == Str.ofString "s") = false := by
  rw [show Str.ofString "s" = S [115] by decide +kernel]
  exact K.no (by decide)
theorem Kd.no_c {k sz : Nat} (K : Kd k sz) : (S [k] == Str.ofString "c") = false := by
  rw [show Str.ofString "c" = S [99] by decide +kernel]
  exact K.no (by decide)
theorem Kd.no_t {k sz : Nat} (K : Kd k sz) : (S [k] == Str.ofString "t") = false := by
  rw [show Str.ofString "t" = S [116] by decide +kernel]
  exact K.no (by decide)
theorem Kd.no_d {k sz : Nat} (K : Kd k sz) : (S [k] == Str.ofString "d") = false := by
  rw [show Str.ofString "d" = S [100] by decide +kernel]
  exact K.no (by decide)
theorem bits_neg {k sz n a b : Nat} {sg : Bool} {wd : Int} (K : Kd k sz) (h : wd < 0) : digits sz n n a b = bitsL k n a b sg wd := by
  rcases K.it with ⟨rfl, rfl⟩ | ⟨rfl, rfl⟩ | ⟨rfl, rfl⟩ | ⟨rfl, rfl⟩ <;> simp [bitsL, numArgL, paddedL, kindL, h, digits_one]
theorem bits_pos {k sz n a b : Nat} {sg : Bool} {wd : Int} (K : Kd k sz) {l : List Nat} (h : ¬ wd < 0) (e : l = strip0 (digits sz n n a b)) : List.replicate (wd - (l.length : Int)).toNat 48 ++ l = bitsL k n a b sg wd := by
  have e2 : (wd - (l.length : Int)).toNat = wd.toNat - l.length := by omega
  rw [e2]
  rcases K.it with ⟨rfl, rfl⟩ | ⟨rfl, rfl⟩ | ⟨rfl, rfl⟩ | ⟨rfl, rfl⟩ <;> simp [bitsL, numArgL, paddedL, kindL, h, e, digits_one, padL]
theorem one_bits {k n a b : Nat} {sg : Bool} {wd : Int} (h : k ≠ 115) : oneVecL k n a b sg wd = bitsL k n a b sg wd := by unfold oneVecL; rw [if_neg h]
theorem text_bits {k : Nat} {l : List Nat} {wd : Int} (h : k ≠ 115) : oneTextL k l wd = bitsL k (8 * max l.length 1) (tval l) 0 false wd := by unfold oneTextL; rw [if_neg h]
theorem tval_lt2 {l : List Nat} (O : Oct l) : tval l < 2 ^ (8 * max l.length 1) := by
  refine Nat.lt_of_lt_of_le (tval_lt O) ?_
  rw [show (256 : Nat) = 2 ^ 8 by decide, ← Nat.pow_mul]
  exact Nat.pow_le_pow_right (by decide) (by omega)
theorem padL_neg {c : Nat} {wd : Int} {l : List Nat} (h : wd < 0) : padL c wd l = l := by
  unfold padL
  rw [show wd.toNat - l.length = 0 by omega]; rfl
theorem text_s {l : List Nat} {wd : Int} : padL 32 wd l = oneTextL 115 l wd := by
  unfold oneTextL
  rw [if_pos rfl]
  split
  · rw [padL_neg (by assumption), padL_id]
  · rfl
theorem vec_s_neg {n a b : Nat} {sg : Bool} {wd : Int} (hn : n ≤ 40) (ha : a < 2 ^ n) (h : wd < 0) : padL 32 (((n : Int) + 7).fdiv 8) (strip00 (octW n n (known n a b))) = oneVecL 115 n a b sg wd := by
  unfold oneVecL
  rw [if_pos rfl, if_pos h, octs_eq hn ha, fd8]
theorem vec_s_pos {n a b : Nat} {sg : Bool} {wd : Int} (hn : n ≤ 40) (ha : a < 2 ^ n) (h : ¬ wd < 0) : padL 32 wd (strip00 (octW n n (known n a b))) = oneVecL 115 n a b sg wd := by
  unfold oneVecL
  rw [if_pos rfl, if_neg h, octs_eq hn ha]
theorem oct_short {n a b : Nat} (hn : n ≤ 40) (ha : a < 2 ^ n) : (strip00 (octW n n (known n a b))).length ≤ 1000 := by
  rw [octs_eq hn ha]; exact Nat.le_trans (octs_len _ _) (by decide)
theorem bits_c {n a b : Nat} {sg : Bool} {wd m : Int} (ha : a < 2 ^ n) (h1 : -1 ≤ wd) (hm : m = max 1 wd) : padL 32 m [bval (lowL a b n)] = bitsL 99 n a b sg wd := by
  unfold bitsL
  rw [if_pos rfl, lowL_val ha]
  unfold padL
  simp only [List.length_cons, List.length_nil]
  congr 2
  split <;> omega
theorem bits_t_neg {n a b : Nat} {sg : Bool} {wd : Int} (h : wd < 0) : padL 32 20 (decL n a b false) = bitsL 116 n a b sg wd := by simp [bitsL, h]
theorem bits_t_pos {n a b : Nat} {sg : Bool} {wd : Int} (h : ¬ wd < 0) : padL 32 wd (decL n a b false) = bitsL 116 n a b sg wd := by simp [bitsL, h]
theorem bits_d_pos {n a b : Nat} {sg : Bool} {wd : Int} (h : 0 ≤ wd) : padL 32 wd (decL n a b sg) = bitsL 100 n a b sg wd := by
  simp [bitsL, numArgL, paddedL, show ¬ wd < 0 by omega]
theorem bits_d_neg1 {n a b : Nat} {sg : Bool} {wd m : Int} (h : ¬ 0 ≤ wd) (hs : sg = true) (hm : m = ((numL ((2 ^ (n - 1) : Nat) : Int)).length : Int) + 1) : padL 32 m (decL n a b sg) = bitsL 100 n a b sg wd := by
  subst hs hm
  simp [bitsL, numArgL, paddedL, show wd < 0 by omega, dwid]
theorem bits_d_neg2 {n a b : Nat} {sg : Bool} {wd m : Int} (h : ¬ 0 ≤ wd) (hs : ¬ sg = true) (hm : m = ((numL ((2 ^ n - 1 : Nat) : Int)).length : Int)) : padL 32 m (decL n a b sg) = bitsL 100 n a b sg wd := by
  subst hm
  simp [bitsL, numArgL, paddedL, show wd < 0 by omega, dwid, hs]
theorem sm_half2 {n : Nat} (hn : n ≤ 40) : Sm18 ((2 ^ (n - 1) : Nat) : Int) := sm_nat (Nat.pow_le_pow_right (by decide) (Nat.sub_le n 1)) hn
theorem n_maxI {prog : Program} {w : World} {A : Around} {E : Value → Shared → Prop} {s : Shared} {Q : Value → Shared → Prop} {x y : Int} {t u : Tok} {h₀ : Heap} {L : Addr} {m : Str → Option Value} {news : List (Addr × Obj)} (hh : A.handled = none) (F : Fr h₀ L s.heap m) (N : News h₀ L s.heap news)
    (h : ∀ h' tk t', Fr h₀ L h' m → News h₀ L h' news → Q (.int (max x y) t') { s with heap := h', toks := tk }) : wpAny (model prog w) A (call (.builtin "max") [.int x t, .int y u]) Q E s :=
  max_two_N hh F N fun h' tk F' N' => by
    have := h h' tk (if y > x then u else t) F' N'
    rw [show (if y > x then y else x) = max x y by (split <;> omega)]
    exact this
theorem one_short (c : Nat) : [c].length ≤ 1000 := by simp
section
variable {prog : Program} {w : World} {A : Around} {E : Value → Shared → Prop} {Q : Value → Shared → Prop} {l : List Nat} {x : Str} {t u : Tok} {i : Int} {k : Nat} {h₀ : Heap} {L : Addr} {m : Str → Option Value} {news : List (Addr × Obj)} {value slice : Expr}
theorem r_from_negR {s : Shared} {hp : Heap} {tk : Nat} (hx : x = S l) (hi : i = -(k : Int)) (hk : 0 < k) (hl : l.length ≤ 100000) (hF : Fr h₀ L hp m) (hN : News h₀ L hp news) (h : ∀ h' t' c, tk ≤ c → Fr h₀ L h' m → News h₀ L h' news → Q (.str (S (l.drop (l.length - k))) t') { heap := h', gens := s.gens, drawn := s.drawn, toks := c, os := s.os })
    (hs : subscripted slice false (.str x t) (.ref hp.objs.size) = operate [.ref hp.objs.size, .str x t] (getItem (.str x t) (.ref hp.objs.size)) := by with_unfolding_all rfl)
    (ht : ∀ r, letTemporaryGo value (.str x t) r = pure () := by intro _; with_unfolding_all rfl) :
    wpAny (model prog w) A (subscriptTail value slice (.str x t) (.ref hp.objs.size)) Q E { heap := hp.push { cls := .type "slice", data := .fields #[.int i u, .none, .none] }, gens := s.gens, drawn := s.drawn, toks := tk, os := s.os } :=
  r_from_negP (s := { heap := hp, gens := s.gens, drawn := s.drawn, toks := tk, os := s.os }) hx hi hk hl hF hN h hs ht
end

local macro_rules | `(tactic| walk_at "subscriptTail Name Constant str int") => `(tactic| k_extra "subscriptTail Name Constant str int")
local macro_rules | `(tactic| walk_at "KysD") => `(tactic| k_extra "KysD")
local macro_rules | `(tactic| walk_at "call builtin:max") => `(tactic| k_extra "call builtin:max")
set_option maxHeartbeats 4000000 in
theorem due_none_c {w : World} {news : List (Addr × Obj)} {x : Str} {wd : Int} {t4 t5 : Tok} :
    Ct0 w 245 3 news [.str x t4, .int wd t5, .none] (fun r => ∃ u, r = .str (S [32]) u) := by
  w_top off
  k_with_none
  k_with "mem" => first | (with_reducible assumption) | exact List.Mem.head _ | (refine List.mem_cons_of_mem _ ?_; k_extra "mem") | (refine List.mem_append.mpr (.inl ?_); k_extra "mem") | (refine List.mem_append.mpr (.inr ?_); k_extra "mem")
  unfold Ct0
  k_fill
  intro fp9 loose9 mean9 mg9 mb9 dp un gd9 cn9 cs9 fa9 ccd9 cl9 outer9 A9 base9 hz9 L9 m9 s9 Q9 E9 B9 F9 X9 N9 T9 hk9 hd9 hu9 hret
  refine wpAny_call ?_
  k_dflt cell_enter
  k_steps
  exact end0 hret (by k_asm) (by k_asm) (fun p hp => hp) ⟨_, congrArg (Value.str · _) (by decide +kernel)⟩


set_option maxHeartbeats 4000000 in
theorem due_vec_g {w : World} {news : List (Addr × Obj)} {D R : Addr} {n a b : Nat} {t1 t2 t3 t4 t5 : Tok} {c c2 : Nat} {sg : Bool} {wd : Int} {k sz : Nat} (K : Kd k sz) (hR : (R, argO D sg c2) ∈ news) (hD : (D, vecO n a b t1 t2 t3 c) ∈ news) (h0 : 0 < n) (hn : n ≤ 40) (ha : Small a) (ha2 : a < 2 ^ n) (h1 : -1 ≤ wd) (h2 : wd ≤ 100) :
    Ct0 w 245 3 news [.str (S [k]) t4, .int wd t5, .ref R] (fun r => ∃ u, r = .str (S (oneVecL k n a b sg wd)) u) := by
  have hl9 := digits_len sz K.pos n n a b
  have hsz0 := K.pos
  have hsz4 := K.le
  have hno1 := K.no_s
  have hno2 := K.no_c
  have hno3 := K.no_t
  have hno4 := K.no_d
  w_top off
  k_with_none
  k_with "mem" => first | (with_reducible assumption) | exact List.Mem.head _ | (refine List.mem_cons_of_mem _ ?_; k_extra "mem") | (refine List.mem_append.mpr (.inl ?_); k_extra "mem") | (refine List.mem_append.mpr (.inr ?_); k_extra "mem")
  unfold Ct0
  k_fill
  intro fp9 loose9 mean9 mg9 mb9 dp un gd9 cn9 cs9 fa9 ccd9 cl9 outer9 A9 base9 hz9 L9 m9 s9 Q9 E9 B9 F9 X9 N9 T9 hk9 hd9 hu9 hret
  refine wpAny_call ?_
  k_dflt cell_enter
  k_with "compareOp Eq str str" => (k_dflt (refine eq_no ?kq ?_); (case kq => first | with_reducible exact hno1 | with_reducible exact hno2 | with_reducible exact hno3 | with_reducible exact hno4))
  k_with "mine call" => (k_dflt (refine' Ct0.use (law_digits_c (sz := sz) ?hD ?hn ?hs ?hs4) ?u1 ?u2 ?u3 ?u4 ?u5 ?uK ?ud ?uu ?_; (case u1 => k_asm); (case u2 => k_asm); (case u3 => k_asm); (case u4 => k_asm); (case u5 => k_asm); (case uK => first | exact rfl | assumption); (case ud => ktr_room); (case uu => ktr_units); (case hD => k_extra "mem"); (case hn => first | assumption | omega); (case hs => assumption); (case hs4 => assumption); intro r9 h9 tk9 F9 N9 ho9; (first | (obtain ⟨t91, t92, t93, c9, e9⟩ := ho9; subst e9) | (obtain ⟨t9, e9⟩ := ho9; subst e9) | subst ho9 | skip); (try dsimp only); (try k_sweep); (try k_fold)))
  k_with "exec While BoolOp cons nil" => k_dflt (k_while (fun _ sh => HInv (digits sz (n) (n) (a) (b)) sh) (fun _ sh => sh.length) "shown"; (rename HInv _ _ => h0); (obtain ⟨l9, e9, h95, h96⟩ := h0.it); subst e9)
  k_with "facts" => exact True.intro
  k_with "state" => first | exact HInv.start | exact HInv.step (by assumption) (by assumption) (by assumption) (get_lt0 (by assumption)) (by assumption)
  k_with "measure" => (rw [S_len, S_len, List.length_drop]; omega)
  k_with "call builtin:len" => (k_dflt (refine' r_len ?hx ?hl ?_; (case hx => exact rfl); (case hl => omega)); intro t9 tk9)
  k_with "subscriptTail Name Constant str int" => (k_dflt (refine' str_item (k := 0) ?hx ?hk (get_lt0 ?hi) ?hl ?_; (case hx => with_reducible rfl); (case hk => exact lit0); (case hi => assumption); (case hl => omega)); intro t9 tk9)
  k_with "subscriptTail Name Slice str ref" => k_dflt (refine' r_from (k := 1) ?hx ?hi ?hl ?hF ?hN ?_; (case hx => exact rfl); (case hi => exact lit1); (case hl => omega); (case hF => k_asm); (case hN => k_asm); (intro h9 t9 c9 F9 N9); (try k_sweep))
  k_with "binaryOp Mult str int" => (k_dflt (refine' r_mulc (c := 48) s_0 ?h1 ?h2 ?_; (case h1 => omega); (case h2 => omega)); intro t9 tk9)
  k_with "binaryOp Add str str" => (k_dflt (refine' r_cat ?hx ?hy ?hl ?_; (case hx => exact rfl); (case hy => exact rfl); (case hl => (rw [List.length_replicate]; omega))); intro t9 tk9)
  k_with "KysD" => (k_dflt (refine kys_tabV (sz := sz) K.tab rfl ?_); intro t9; (try dsimp only); (try k_sweep))
  k_steps
  all_goals refine end0 hret (by k_asm) (by k_asm) (fun p hp => by repeat (first | exact hp | refine List.mem_cons_of_mem _ ?_)) ⟨_, congrArg (fun l => Value.str (S l) _) (Eq.trans ?_ (Eq.symm (one_bits K.ne)))⟩
  · exact bits_neg K (by assumption)
  · exact bits_pos K (by assumption) (HInv.done2 (by assumption) (get_lt0 (by assumption)) (by assumption))
  · exact bits_pos K (by assumption) (HInv.done1 (by assumption) (by assumption))


set_option maxHeartbeats 4000000 in
theorem due_vec_c {w : World} {news : List (Addr × Obj)} {D R : Addr} {n a b : Nat} {t1 t2 t3 t4 t5 : Tok} {c c2 : Nat} {sg : Bool} {wd : Int} (hR : (R, argO D sg c2) ∈ news) (hD : (D, vecO n a b t1 t2 t3 c) ∈ news) (h0 : 0 < n) (hn : n ≤ 40) (ha : Small a) (ha2 : a < 2 ^ n) (h1 : -1 ≤ wd) (h2 : wd ≤ 100) :
    Ct0 w 245 3 news [.str (S [99]) t4, .int wd t5, .ref R] (fun r => ∃ u, r = .str (S (oneVecL 99 n a b sg wd)) u) := by
  w_top off
  k_with_none
  k_with "mem" => first | (with_reducible assumption) | exact List.Mem.head _ | (refine List.mem_cons_of_mem _ ?_; k_extra "mem") | (refine List.mem_append.mpr (.inl ?_); k_extra "mem") | (refine List.mem_append.mpr (.inr ?_); k_extra "mem")
  unfold Ct0
  k_fill
  intro fp9 loose9 mean9 mg9 mb9 dp un gd9 cn9 cs9 fa9 ccd9 cl9 outer9 A9 base9 hz9 L9 m9 s9 Q9 E9 B9 F9 X9 N9 T9 hk9 hd9 hu9 hret
  refine wpAny_call ?_
  k_dflt cell_enter
  k_with "mine call" => (k_dflt (refine' Ct0.use (law_signs_c ?hD ?hn) ?u1 ?u2 ?u3 ?u4 ?u5 ?uK ?ud ?uu ?_; (case u1 => k_asm); (case u2 => k_asm); (case u3 => k_asm); (case u4 => k_asm); (case u5 => k_asm); (case uK => first | exact rfl | assumption); (case ud => ktr_room); (case uu => ktr_units); (case hD => k_extra "mem"); (case hn => first | assumption | omega); intro r9 h9 tk9 F9 N9 ho9; (first | (obtain ⟨t91, t92, t93, c9, e9⟩ := ho9; subst e9) | (obtain ⟨t9, e9⟩ := ho9; subst e9) | subst ho9 | skip); (try dsimp only); (try k_sweep); (try k_fold)))
  k_with "mine call" => (k_dflt (refine' Ct0.use (law_blanks_c ?hl ?h1 ?h2) ?u1 ?u2 ?u3 ?u4 ?u5 ?uK ?ud ?uu ?_; (case u1 => k_asm); (case u2 => k_asm); (case u3 => k_asm); (case u4 => k_asm); (case u5 => k_asm); (case uK => first | exact rfl | assumption); (case ud => ktr_room); (case uu => ktr_units); (case hl => exact one_short _); (case h1 => omega); (case h2 => omega); intro r9 h9 tk9 F9 N9 ho9; (first | (obtain ⟨t91, t92, t93, c9, e9⟩ := ho9; subst e9) | (obtain ⟨t9, e9⟩ := ho9; subst e9) | subst ho9 | skip); (try dsimp only); (try k_sweep); (try k_fold)))
  k_with "call builtin:str.replace" => k_dflt (first
    | (refine' r_replaceN (c := 120) (d := 48) ?hx s_x s_0 ?hcd ?h1 ?h3 ?hl ?_; (case hx => exact rfl); (case hcd => decide); (case h1 => exact Nat.le_trans (Nat.le_add_left 1 _) hle9); (case h3 => exact Nat.lt_succ_self _); (case hl => (rw [List.length_drop, signs_len]; omega)); (intro t8 n8 hle8); (try dsimp only at hle8 ⊢))
    | (refine' r_replaceN (c := 122) (d := 48) ?hx s_z s_0 ?hcd ?h1 ?h3 ?hl ?_; (case hx => exact rfl); (case hcd => decide); (case h1 => exact Nat.le_trans (Nat.le_add_left 1 _) hle8); (case h3 => exact Nat.lt_succ_self _); (case hl => (unfold rep; rw [List.length_map, List.length_drop, signs_len]; omega)); (intro t7 n7 hle7); (try dsimp only at hle7 ⊢)))
  k_with "subscriptTail Name Slice str ref" => k_dflt (refine' r_from_negR (k := 8) ?hx ?hi ?hk ?hl ?hF ?hN ?_; (case hx => exact rfl); (case hi => exact rfl); (case hk => decide); (case hl => (rw [signs_len]; omega)); (case hF => k_asm); (case hN => k_asm); (intro h9 t9 c9 hle9 F9 N9); (try dsimp only at hle9 ⊢); (try k_sweep))
  k_with "pyIter str" => k_dflt (k_state (fun pre v => VInv (lowL (a) (b) (n)) pre v) "total" <;> ((rename VInv _ _ _ => h0); first | (have h1 := VInv.done h0; subst h1; clear h0) | (obtain ⟨p9, r9, e95, e96, e97⟩ := h0.it; subst e97; clear h0)))
  k_with "facts" => exact True.intro
  k_with "state" => first | exact VInv.start | exact VInv.step (by assumption) (by assumption) (by assumption)
  k_with "call builtin:chr" => (k_dflt (refine' n_chr ?hx ?hr ?_; (case hx => with_reducible rfl); (case hr => exact lowL_le (by assumption))); intro t9 k9)
  k_with "call builtin:str.index" => (k_dflt (refine' r_index01 lit_01 ?hy ?hc ?_; (case hy => exact rfl); (case hc => exact lowL_bin _ _ _ _ (code_mem (by assumption) (by assumption) (by assumption)))))
  k_with "call builtin:max" => (k_dflt (refine' n_maxI ?nh ?nF ?nN ?_); (case nh => k_dflt (exact rfl)); (case nF => k_asm); (case nN => k_asm); (intro h9 tk9 t9 F9 N9); (try k_sweep))
  k_steps
  all_goals refine end0 hret (by k_asm) (by k_asm) (fun p hp => by repeat (first | exact hp | refine List.mem_cons_of_mem _ ?_)) ⟨_, congrArg (fun l => Value.str (S l) _) (Eq.trans ?_ (Eq.symm (one_bits (by decide))))⟩
  · exact bits_c (by assumption) (by assumption) (by omega)


set_option maxHeartbeats 4000000 in
theorem due_vec_t {w : World} {news : List (Addr × Obj)} {D R : Addr} {n a b : Nat} {t1 t2 t3 t4 t5 : Tok} {c c2 : Nat} {sg : Bool} {wd : Int} (hR : (R, argO D sg c2) ∈ news) (hD : (D, vecO n a b t1 t2 t3 c) ∈ news) (h0 : 0 < n) (hn : n ≤ 40) (ha : Small a) (ha2 : a < 2 ^ n) (h1 : -1 ≤ wd) (h2 : wd ≤ 100) :
    Ct0 w 245 3 news [.str (S [116]) t4, .int wd t5, .ref R] (fun r => ∃ u, r = .str (S (oneVecL 116 n a b sg wd)) u) := by
  w_top off
  k_with_none
  k_with "mem" => first | (with_reducible assumption) | exact List.Mem.head _ | (refine List.mem_cons_of_mem _ ?_; k_extra "mem") | (refine List.mem_append.mpr (.inl ?_); k_extra "mem") | (refine List.mem_append.mpr (.inr ?_); k_extra "mem")
  unfold Ct0
  k_fill
  intro fp9 loose9 mean9 mg9 mb9 dp un gd9 cn9 cs9 fa9 ccd9 cl9 outer9 A9 base9 hz9 L9 m9 s9 Q9 E9 B9 F9 X9 N9 T9 hk9 hd9 hu9 hret
  refine wpAny_call ?_
  k_dflt cell_enter
  k_with "mine call" => (k_dflt (refine' Ct0.use (law_number_c ?hD ?h0 ?hn ?ha ?ha2) ?u1 ?u2 ?u3 ?u4 ?u5 ?uK ?ud ?uu ?_; (case u1 => k_asm); (case u2 => k_asm); (case u3 => k_asm); (case u4 => k_asm); (case u5 => k_asm); (case uK => first | exact rfl | assumption); (case ud => ktr_room); (case uu => ktr_units); (case hD => k_extra "mem"); (case h0 => first | assumption | omega); (case hn => first | assumption | omega); (case ha => assumption); (case ha2 => assumption); intro r9 h9 tk9 F9 N9 ho9; (first | (obtain ⟨t91, t92, t93, c9, e9⟩ := ho9; subst e9) | (obtain ⟨t9, e9⟩ := ho9; subst e9) | subst ho9 | skip); (try dsimp only); (try k_sweep); (try k_fold)))
  have hdl := decL_len (b := b) (sg := false) ha hn
  k_with "mine call" => (k_dflt (refine' Ct0.use (law_blanks_c ?hl ?h1 ?h2) ?u1 ?u2 ?u3 ?u4 ?u5 ?uK ?ud ?uu ?_; (case u1 => k_asm); (case u2 => k_asm); (case u3 => k_asm); (case u4 => k_asm); (case u5 => k_asm); (case uK => first | exact rfl | assumption); (case ud => ktr_room); (case uu => ktr_units); (case hl => omega); (case h1 => omega); (case h2 => omega); intro r9 h9 tk9 F9 N9 ho9; (first | (obtain ⟨t91, t92, t93, c9, e9⟩ := ho9; subst e9) | (obtain ⟨t9, e9⟩ := ho9; subst e9) | subst ho9 | skip); (try dsimp only); (try k_sweep); (try k_fold)))
  k_steps
  all_goals refine end0 hret (by k_asm) (by k_asm) (fun p hp => by repeat (first | exact hp | refine List.mem_cons_of_mem _ ?_)) ⟨_, congrArg (fun l => Value.str (S l) _) (Eq.trans ?_ (Eq.symm (one_bits (by decide))))⟩
  · exact bits_t_neg (by assumption)
  · exact bits_t_pos (by assumption)

set_option maxHeartbeats 4000000 in
theorem due_vec_d {w : World} {news : List (Addr × Obj)} {D R : Addr} {n a b : Nat} {t1 t2 t3 t4 t5 : Tok} {c c2 : Nat} {sg : Bool} {wd : Int} (hR : (R, argO D sg c2) ∈ news) (hD : (D, vecO n a b t1 t2 t3 c) ∈ news) (h0 : 0 < n) (hn : n ≤ 40) (ha : Small a) (ha2 : a < 2 ^ n) (h1 : -1 ≤ wd) (h2 : wd ≤ 100) :
    Ct0 w 245 3 news [.str (S [100]) t4, .int wd t5, .ref R] (fun r => ∃ u, r = .str (S (oneVecL 100 n a b sg wd)) u) := by
  w_top off
  k_with_none
  k_with "mem" => first | (with_reducible assumption) | exact List.Mem.head _ | (refine List.mem_cons_of_mem _ ?_; k_extra "mem") | (refine List.mem_append.mpr (.inl ?_); k_extra "mem") | (refine List.mem_append.mpr (.inr ?_); k_extra "mem")
  unfold Ct0
  k_fill
  intro fp9 loose9 mean9 mg9 mb9 dp un gd9 cn9 cs9 fa9 ccd9 cl9 outer9 A9 base9 hz9 L9 m9 s9 Q9 E9 B9 F9 X9 N9 T9 hk9 hd9 hu9 hret
  refine wpAny_call ?_
  k_dflt cell_enter
  k_with "mine call" => (k_dflt (refine' Ct0.use (law_number_c ?hD ?h0 ?hn ?ha ?ha2) ?u1 ?u2 ?u3 ?u4 ?u5 ?uK ?ud ?uu ?_; (case u1 => k_asm); (case u2 => k_asm); (case u3 => k_asm); (case u4 => k_asm); (case u5 => k_asm); (case uK => first | exact rfl | assumption); (case ud => ktr_room); (case uu => ktr_units); (case hD => k_extra "mem"); (case h0 => first | assumption | omega); (case hn => first | assumption | omega); (case ha => assumption); (case ha2 => assumption); intro r9 h9 tk9 F9 N9 ho9; (first | (obtain ⟨t91, t92, t93, c9, e9⟩ := ho9; subst e9) | (obtain ⟨t9, e9⟩ := ho9; subst e9) | subst ho9 | skip); (try dsimp only); (try k_sweep); (try k_fold)))
  have hdl := decL_len (b := b) (sg := sg) ha hn
  have hp9 := Nat.two_pow_pos (n)
  have hm1 := numL_len (sm_half2 (n := n) hn)
  have hm2 := numL_len (sm_mask (n := n) hn)
  k_with "mine call" => (k_dflt (refine' Ct0.use (law_blanks_c ?hl ?h1 ?h2) ?u1 ?u2 ?u3 ?u4 ?u5 ?uK ?ud ?uu ?_; (case u1 => k_asm); (case u2 => k_asm); (case u3 => k_asm); (case u4 => k_asm); (case u5 => k_asm); (case uK => first | exact rfl | assumption); (case ud => ktr_room); (case uu => ktr_units); (case hl => omega); (case h1 => omega); (case h2 => omega); intro r9 h9 tk9 F9 N9 ho9; (first | (obtain ⟨t91, t92, t93, c9, e9⟩ := ho9; subst e9) | (obtain ⟨t9, e9⟩ := ho9; subst e9) | subst ho9 | skip); (try dsimp only); (try k_sweep); (try k_fold)))
  k_with "call type:str" => (k_dflt (refine' r_str ?h ?_; (case h => first | exact sm_half2 hn | exact sm_mask hn)); intro t9 tk9)
  k_with "call builtin:len" => (k_dflt (refine' r_len ?hx ?hl ?_; (case hx => exact rfl); (case hl => omega)); intro t9 tk9)
  k_steps
  all_goals refine end0 hret (by k_asm) (by k_asm) (fun p hp => by repeat (first | exact hp | refine List.mem_cons_of_mem _ ?_)) ⟨_, congrArg (fun l => Value.str (S l) _) (Eq.trans ?_ (Eq.symm (one_bits (by decide))))⟩
  all_goals first
    | exact bits_d_pos (by omega)
    | exact bits_d_neg1 (by omega) (by assumption) rfl
    | exact bits_d_neg2 (by omega) (by simp_all) rfl


set_option maxHeartbeats 4000000 in
theorem due_vec_s {w : World} {news : List (Addr × Obj)} {D R : Addr} {n a b : Nat} {t1 t2 t3 t4 t5 : Tok} {c c2 : Nat} {sg : Bool} {wd : Int} (hR : (R, argO D sg c2) ∈ news) (hD : (D, vecO n a b t1 t2 t3 c) ∈ news) (h0 : 0 < n) (hn : n ≤ 40) (ha : Small a) (ha2 : a < 2 ^ n) (h1 : -1 ≤ wd) (h2 : wd ≤ 100) :
    Ct0 w 245 3 news [.str (S [115]) t4, .int wd t5, .ref R] (fun r => ∃ u, r = .str (S (oneVecL 115 n a b sg wd)) u) := by
  w_top off
  k_with_none
  k_with "mem" => first | (with_reducible assumption) | exact List.Mem.head _ | (refine List.mem_cons_of_mem _ ?_; k_extra "mem") | (refine List.mem_append.mpr (.inl ?_); k_extra "mem") | (refine List.mem_append.mpr (.inr ?_); k_extra "mem")
  unfold Ct0
  k_fill
  intro fp9 loose9 mean9 mg9 mb9 dp un gd9 cn9 cs9 fa9 ccd9 cl9 outer9 A9 base9 hz9 L9 m9 s9 Q9 E9 B9 F9 X9 N9 T9 hk9 hd9 hu9 hret
  refine wpAny_call ?_
  k_dflt cell_enter
  k_with "mine call" => (k_dflt (refine' Ct0.use (law_octets_c ?hD ?hn) ?u1 ?u2 ?u3 ?u4 ?u5 ?uK ?ud ?uu ?_; (case u1 => k_asm); (case u2 => k_asm); (case u3 => k_asm); (case u4 => k_asm); (case u5 => k_asm); (case uK => first | exact rfl | assumption); (case ud => ktr_room); (case uu => ktr_units); (case hD => k_extra "mem"); (case hn => assumption); intro r9 h9 tk9 F9 N9 ho9; (first | (obtain ⟨t91, t92, t93, c9, e9⟩ := ho9; subst e9) | (obtain ⟨t9, e9⟩ := ho9; subst e9) | subst ho9 | skip); (try dsimp only); (try k_sweep); (try k_fold)))
  have hos := oct_short (b := b) hn ha2
  have hf1 := fd8_ge n
  have hf2 := fd8_le hn
  k_with "mine call" => (k_dflt (refine' Ct0.use (law_blanks_c ?hl ?h1 ?h2) ?u1 ?u2 ?u3 ?u4 ?u5 ?uK ?ud ?uu ?_; (case u1 => k_asm); (case u2 => k_asm); (case u3 => k_asm); (case u4 => k_asm); (case u5 => k_asm); (case uK => first | exact rfl | assumption); (case ud => ktr_room); (case uu => ktr_units); (case hl => assumption); (case h1 => omega); (case h2 => omega); intro r9 h9 tk9 F9 N9 ho9; (first | (obtain ⟨t91, t92, t93, c9, e9⟩ := ho9; subst e9) | (obtain ⟨t9, e9⟩ := ho9; subst e9) | subst ho9 | skip); (try dsimp only); (try k_sweep); (try k_fold)))
  k_steps
  all_goals refine end0 hret (by k_asm) (by k_asm) (fun p hp => hp) ⟨_, congrArg (fun l => Value.str (S l) _) ?_⟩
  · exact vec_s_neg hn ha2 (by assumption)
  · exact vec_s_pos hn ha2 (by assumption)


set_option maxHeartbeats 4000000 in
theorem due_text_g {w : World} {news : List (Addr × Obj)} {l : List Nat} {t3 t4 t5 : Tok} {wd : Int} {k sz : Nat} (K : Kd k sz) (O : Oct l) (h1 : -1 ≤ wd) (h2 : wd ≤ 100) :
    Ct0 w 245 3 news [.str (S [k]) t4, .int wd t5, .str (S l) t3] (fun r => ∃ u, r = .str (S (oneTextL k l wd)) u) := by
  have hl8 := O.short
  have hn9 : 8 * max l.length 1 ≤ 40 := by omega
  have ha := tval_Small O
  have ha2 := tval_lt2 O
  have hl9 := digits_len sz K.pos (8 * max l.length 1) (8 * max l.length 1) (tval l) 0
  have hsz0 := K.pos
  have hsz4 := K.le
  have hno1 := K.no_s
  have hno2 := K.no_c
  have hno3 := K.no_t
  have hno4 := K.no_d
  w_top off
  k_with_none
  k_with "mem" => first | (with_reducible assumption) | exact List.Mem.head _ | (refine List.mem_cons_of_mem _ ?_; k_extra "mem") | (refine List.mem_append.mpr (.inl ?_); k_extra "mem") | (refine List.mem_append.mpr (.inr ?_); k_extra "mem")
  unfold Ct0
  k_fill
  intro fp9 loose9 mean9 mg9 mb9 dp un gd9 cn9 cs9 fa9 ccd9 cl9 outer9 A9 base9 hz9 L9 m9 s9 Q9 E9 B9 F9 X9 N9 T9 hk9 hd9 hu9 hret
  refine wpAny_call ?_
  k_dflt cell_enter
  k_with "compareOp Eq str str" => (k_dflt (refine eq_no ?kq ?_); (case kq => first | with_reducible exact hno1 | with_reducible exact hno2 | with_reducible exact hno3 | with_reducible exact hno4))
  k_with "mine call" => (k_dflt (refine' CtT.use (law_text_arg_c ?hO) ?u1 ?u2 ?u3 ?u4 ?u5 ?uK ?ud ?uu ?_; (case u1 => k_asm); (case u2 => k_asm); (case u3 => k_asm); (case u4 => k_asm); (case u5 => k_asm); (case uK => first | exact rfl | assumption); (case ud => ktr_room); (case uu => ktr_units); (case hO => assumption); intro D9 h9 tk9 o9 F9 N9 l9 ho9; (try k_lt l9); (first | (obtain ⟨t91, t92, t93, c9, e9⟩ := ho9; subst e9) | (obtain ⟨t9, e9⟩ := ho9; subst e9) | subst ho9 | skip); (try dsimp only); (try k_sweep); (try k_fold)))
  k_with "mine call" => (k_dflt (refine' Ct0.use (law_digits_c (sz := sz) ?hD ?hn ?hs ?hs4) ?u1 ?u2 ?u3 ?u4 ?u5 ?uK ?ud ?uu ?_; (case u1 => k_asm); (case u2 => k_asm); (case u3 => k_asm); (case u4 => k_asm); (case u5 => k_asm); (case uK => first | exact rfl | assumption); (case ud => ktr_room); (case uu => ktr_units); (case hD => k_extra "mem"); (case hn => first | assumption | omega); (case hs => assumption); (case hs4 => assumption); intro r9 h9 tk9 F9 N9 ho9; (first | (obtain ⟨t91, t92, t93, c9, e9⟩ := ho9; subst e9) | (obtain ⟨t9, e9⟩ := ho9; subst e9) | subst ho9 | skip); (try dsimp only); (try k_sweep); (try k_fold)))
  k_with "exec While BoolOp cons nil" => k_dflt (k_while (fun _ sh => HInv (digits sz (8 * max l.length 1) (8 * max l.length 1) (tval l) (0)) sh) (fun _ sh => sh.length) "shown"; (rename HInv _ _ => h0); (obtain ⟨l9, e9, h95, h96⟩ := h0.it); subst e9)
  k_with "facts" => exact True.intro
  k_with "state" => first | exact HInv.start | exact HInv.step (by assumption) (by assumption) (by assumption) (get_lt0 (by assumption)) (by assumption)
  k_with "measure" => (rw [S_len, S_len, List.length_drop]; omega)
  k_with "call builtin:len" => (k_dflt (refine' r_len ?hx ?hl ?_; (case hx => exact rfl); (case hl => omega)); intro t9 tk9)
  k_with "subscriptTail Name Constant str int" => (k_dflt (refine' str_item (k := 0) ?hx ?hk (get_lt0 ?hi) ?hl ?_; (case hx => with_reducible rfl); (case hk => exact lit0); (case hi => assumption); (case hl => omega)); intro t9 tk9)
  k_with "subscriptTail Name Slice str ref" => k_dflt (refine' r_from (k := 1) ?hx ?hi ?hl ?hF ?hN ?_; (case hx => exact rfl); (case hi => exact lit1); (case hl => omega); (case hF => k_asm); (case hN => k_asm); (intro h9 t9 c9 F9 N9); (try k_sweep))
  k_with "binaryOp Mult str int" => (k_dflt (refine' r_mulc (c := 48) s_0 ?h1 ?h2 ?_; (case h1 => omega); (case h2 => omega)); intro t9 tk9)
  k_with "binaryOp Add str str" => (k_dflt (refine' r_cat ?hx ?hy ?hl ?_; (case hx => exact rfl); (case hy => exact rfl); (case hl => (rw [List.length_replicate]; omega))); intro t9 tk9)
  k_with "KysD" => (k_dflt (refine kys_tabV (sz := sz) K.tab rfl ?_); intro t9; (try dsimp only); (try k_sweep))
  k_steps
  all_goals refine end0 hret (by k_asm) (by k_asm) (fun p hp => by repeat (first | exact hp | refine List.mem_cons_of_mem _ ?_)) ⟨_, congrArg (fun l => Value.str (S l) _) (Eq.trans ?_ (Eq.symm (text_bits K.ne)))⟩
  · exact bits_neg K (by assumption)
  · exact bits_pos K (by assumption) (HInv.done2 (by assumption) (get_lt0 (by assumption)) (by assumption))
  · exact bits_pos K (by assumption) (HInv.done1 (by assumption) (by assumption))


set_option maxHeartbeats 4000000 in
theorem due_text_c {w : World} {news : List (Addr × Obj)} {l : List Nat} {t3 t4 t5 : Tok} {wd : Int} (O : Oct l) (h1 : -1 ≤ wd) (h2 : wd ≤ 100) :
    Ct0 w 245 3 news [.str (S [99]) t4, .int wd t5, .str (S l) t3] (fun r => ∃ u, r = .str (S (oneTextL 99 l wd)) u) := by
  have hl8 := O.short
  have hn9 : 8 * max l.length 1 ≤ 40 := by omega
  have ha := tval_Small O
  have ha2 := tval_lt2 O
  w_top off
  k_with_none
  k_with "mem" => first | (with_reducible assumption) | exact List.Mem.head _ | (refine List.mem_cons_of_mem _ ?_; k_extra "mem") | (refine List.mem_append.mpr (.inl ?_); k_extra "mem") | (refine List.mem_append.mpr (.inr ?_); k_extra "mem")
  unfold Ct0
  k_fill
  intro fp9 loose9 mean9 mg9 mb9 dp un gd9 cn9 cs9 fa9 ccd9 cl9 outer9 A9 base9 hz9 L9 m9 s9 Q9 E9 B9 F9 X9 N9 T9 hk9 hd9 hu9 hret
  refine wpAny_call ?_
  k_dflt cell_enter
  k_with "mine call" => (k_dflt (refine' CtT.use (law_text_arg_c ?hO) ?u1 ?u2 ?u3 ?u4 ?u5 ?uK ?ud ?uu ?_; (case u1 => k_asm); (case u2 => k_asm); (case u3 => k_asm); (case u4 => k_asm); (case u5 => k_asm); (case uK => first | exact rfl | assumption); (case ud => ktr_room); (case uu => ktr_units); (case hO => assumption); intro D9 h9 tk9 o9 F9 N9 l9 ho9; (try k_lt l9); (first | (obtain ⟨t91, t92, t93, c9, e9⟩ := ho9; subst e9) | (obtain ⟨t9, e9⟩ := ho9; subst e9) | subst ho9 | skip); (try dsimp only); (try k_sweep); (try k_fold)))
  k_with "mine call" => (k_dflt (refine' Ct0.use (law_signs_c ?hD ?hn) ?u1 ?u2 ?u3 ?u4 ?u5 ?uK ?ud ?uu ?_; (case u1 => k_asm); (case u2 => k_asm); (case u3 => k_asm); (case u4 => k_asm); (case u5 => k_asm); (case uK => first | exact rfl | assumption); (case ud => ktr_room); (case uu => ktr_units); (case hD => k_extra "mem"); (case hn => first | assumption | omega); intro r9 h9 tk9 F9 N9 ho9; (first | (obtain ⟨t91, t92, t93, c9, e9⟩ := ho9; subst e9) | (obtain ⟨t9, e9⟩ := ho9; subst e9) | subst ho9 | skip); (try dsimp only); (try k_sweep); (try k_fold)))
  k_with "mine call" => (k_dflt (refine' Ct0.use (law_blanks_c ?hl ?h1 ?h2) ?u1 ?u2 ?u3 ?u4 ?u5 ?uK ?ud ?uu ?_; (case u1 => k_asm); (case u2 => k_asm); (case u3 => k_asm); (case u4 => k_asm); (case u5 => k_asm); (case uK => first | exact rfl | assumption); (case ud => ktr_room); (case uu => ktr_units); (case hl => exact one_short _); (case h1 => omega); (case h2 => omega); intro r9 h9 tk9 F9 N9 ho9; (first | (obtain ⟨t91, t92, t93, c9, e9⟩ := ho9; subst e9) | (obtain ⟨t9, e9⟩ := ho9; subst e9) | subst ho9 | skip); (try dsimp only); (try k_sweep); (try k_fold)))
  k_with "call builtin:str.replace" => k_dflt (first
    | (refine' r_replaceN (c := 120) (d := 48) ?hx s_x s_0 ?hcd ?h1 ?h3 ?hl ?_; (case hx => exact rfl); (case hcd => decide); (case h1 => exact Nat.le_trans (Nat.le_add_left 1 _) hle9); (case h3 => exact Nat.lt_succ_self _); (case hl => (rw [List.length_drop, signs_len]; omega)); (intro t8 n8 hle8); (try dsimp only at hle8 ⊢))
    | (refine' r_replaceN (c := 122) (d := 48) ?hx s_z s_0 ?hcd ?h1 ?h3 ?hl ?_; (case hx => exact rfl); (case hcd => decide); (case h1 => exact Nat.le_trans (Nat.le_add_left 1 _) hle8); (case h3 => exact Nat.lt_succ_self _); (case hl => (unfold rep; rw [List.length_map, List.length_drop, signs_len]; omega)); (intro t7 n7 hle7); (try dsimp only at hle7 ⊢)))
  k_with "subscriptTail Name Slice str ref" => k_dflt (refine' r_from_negR (k := 8) ?hx ?hi ?hk ?hl ?hF ?hN ?_; (case hx => exact rfl); (case hi => exact rfl); (case hk => decide); (case hl => (rw [signs_len]; omega)); (case hF => k_asm); (case hN => k_asm); (intro h9 t9 c9 hle9 F9 N9); (try dsimp only at hle9 ⊢); (try k_sweep))
  k_with "pyIter str" => k_dflt (k_state (fun pre v => VInv (lowL (tval l) (0) (8 * max l.length 1)) pre v) "total" <;> ((rename VInv _ _ _ => h0); first | (have h1 := VInv.done h0; subst h1; clear h0) | (obtain ⟨p9, r9, e95, e96, e97⟩ := h0.it; subst e97; clear h0)))
  k_with "facts" => exact True.intro
  k_with "state" => first | exact VInv.start | exact VInv.step (by assumption) (by assumption) (by assumption)
  k_with "call builtin:chr" => (k_dflt (refine' n_chr ?hx ?hr ?_; (case hx => with_reducible rfl); (case hr => exact lowL_le (by assumption))); intro t9 k9)
  k_with "call builtin:str.index" => (k_dflt (refine' r_index01 lit_01 ?hy ?hc ?_; (case hy => exact rfl); (case hc => exact lowL_bin _ _ _ _ (code_mem (by assumption) (by assumption) (by assumption)))))
  k_with "call builtin:max" => (k_dflt (refine' n_maxI ?nh ?nF ?nN ?_); (case nh => k_dflt (exact rfl)); (case nF => k_asm); (case nN => k_asm); (intro h9 tk9 t9 F9 N9); (try k_sweep))
  k_steps
  all_goals refine end0 hret (by k_asm) (by k_asm) (fun p hp => by repeat (first | exact hp | refine List.mem_cons_of_mem _ ?_)) ⟨_, congrArg (fun l => Value.str (S l) _) (Eq.trans ?_ (Eq.symm (text_bits (by decide))))⟩
  · exact bits_c (by assumption) (by assumption) (by omega)

set_option maxHeartbeats 4000000 in
theorem due_text_s {w : World} {news : List (Addr × Obj)} {l : List Nat} {t3 t4 t5 : Tok} {wd : Int} (O : Oct l) (h1 : -1 ≤ wd) (h2 : wd ≤ 100) :
    Ct0 w 245 3 news [.str (S [115]) t4, .int wd t5, .str (S l) t3] (fun r => ∃ u, r = .str (S (oneTextL 115 l wd)) u) := by
  have hl8 := O.short
  w_top off
  k_with_none
  k_with "mem" => first | (with_reducible assumption) | exact List.Mem.head _ | (refine List.mem_cons_of_mem _ ?_; k_extra "mem") | (refine List.mem_append.mpr (.inl ?_); k_extra "mem") | (refine List.mem_append.mpr (.inr ?_); k_extra "mem")
  unfold Ct0
  k_fill
  intro fp9 loose9 mean9 mg9 mb9 dp un gd9 cn9 cs9 fa9 ccd9 cl9 outer9 A9 base9 hz9 L9 m9 s9 Q9 E9 B9 F9 X9 N9 T9 hk9 hd9 hu9 hret
  refine wpAny_call ?_
  k_dflt cell_enter
  k_with "mine call" => (k_dflt (refine' Ct0.use (law_blanks_c ?hl ?h1 ?h2) ?u1 ?u2 ?u3 ?u4 ?u5 ?uK ?ud ?uu ?_; (case u1 => k_asm); (case u2 => k_asm); (case u3 => k_asm); (case u4 => k_asm); (case u5 => k_asm); (case uK => first | exact rfl | assumption); (case ud => ktr_room); (case uu => ktr_units); (case hl => omega); (case h1 => omega); (case h2 => omega); intro r9 h9 tk9 F9 N9 ho9; (first | (obtain ⟨t91, t92, t93, c9, e9⟩ := ho9; subst e9) | (obtain ⟨t9, e9⟩ := ho9; subst e9) | subst ho9 | skip); (try dsimp only); (try k_sweep); (try k_fold)))
  k_steps
  all_goals refine end0 hret (by k_asm) (by k_asm) (fun p hp => hp) ⟨_, congrArg (fun l => Value.str (S l) _) ?_⟩
  all_goals exact text_s


set_option maxHeartbeats 4000000 in
theorem due_text_t {w : World} {news : List (Addr × Obj)} {l : List Nat} {t3 t4 t5 : Tok} {wd : Int} (O : Oct l) (h1 : -1 ≤ wd) (h2 : wd ≤ 100) :
    Ct0 w 245 3 news [.str (S [116]) t4, .int wd t5, .str (S l) t3] (fun r => ∃ u, r = .str (S (oneTextL 116 l wd)) u) := by
  have hl8 := O.short
  have hn9 : 8 * max l.length 1 ≤ 40 := by omega
  have ha := tval_Small O
  have ha2 := tval_lt2 O
  w_top off
  k_with_none
  k_with "mem" => first | (with_reducible assumption) | exact List.Mem.head _ | (refine List.mem_cons_of_mem _ ?_; k_extra "mem") | (refine List.mem_append.mpr (.inl ?_); k_extra "mem") | (refine List.mem_append.mpr (.inr ?_); k_extra "mem")
  unfold Ct0
  k_fill
  intro fp9 loose9 mean9 mg9 mb9 dp un gd9 cn9 cs9 fa9 ccd9 cl9 outer9 A9 base9 hz9 L9 m9 s9 Q9 E9 B9 F9 X9 N9 T9 hk9 hd9 hu9 hret
  refine wpAny_call ?_
  k_dflt cell_enter
  k_with "mine call" => (k_dflt (refine' CtT.use (law_text_arg_c ?hO) ?u1 ?u2 ?u3 ?u4 ?u5 ?uK ?ud ?uu ?_; (case u1 => k_asm); (case u2 => k_asm); (case u3 => k_asm); (case u4 => k_asm); (case u5 => k_asm); (case uK => first | exact rfl | assumption); (case ud => ktr_room); (case uu => ktr_units); (case hO => assumption); intro D9 h9 tk9 o9 F9 N9 l9 ho9; (try k_lt l9); (first | (obtain ⟨t91, t92, t93, c9, e9⟩ := ho9; subst e9) | (obtain ⟨t9, e9⟩ := ho9; subst e9) | subst ho9 | skip); (try dsimp only); (try k_sweep); (try k_fold)))
  k_with "mine call" => (k_dflt (refine' Ct0.use (law_number_c ?hD ?h0 ?hn ?ha ?ha2) ?u1 ?u2 ?u3 ?u4 ?u5 ?uK ?ud ?uu ?_; (case u1 => k_asm); (case u2 => k_asm); (case u3 => k_asm); (case u4 => k_asm); (case u5 => k_asm); (case uK => first | exact rfl | assumption); (case ud => ktr_room); (case uu => ktr_units); (case hD => k_extra "mem"); (case h0 => first | assumption | omega); (case hn => first | assumption | omega); (case ha => assumption); (case ha2 => assumption); intro r9 h9 tk9 F9 N9 ho9; (first | (obtain ⟨t91, t92, t93, c9, e9⟩ := ho9; subst e9) | (obtain ⟨t9, e9⟩ := ho9; subst e9) | subst ho9 | skip); (try dsimp only); (try k_sweep); (try k_fold)))
  have hdl := decL_len (b := 0) (sg := false) ha hn9
  k_with "mine call" => (k_dflt (refine' Ct0.use (law_blanks_c ?hl ?h1 ?h2) ?u1 ?u2 ?u3 ?u4 ?u5 ?uK ?ud ?uu ?_; (case u1 => k_asm); (case u2 => k_asm); (case u3 => k_asm); (case u4 => k_asm); (case u5 => k_asm); (case uK => first | exact rfl | assumption); (case ud => ktr_room); (case uu => ktr_units); (case hl => omega); (case h1 => omega); (case h2 => omega); intro r9 h9 tk9 F9 N9 ho9; (first | (obtain ⟨t91, t92, t93, c9, e9⟩ := ho9; subst e9) | (obtain ⟨t9, e9⟩ := ho9; subst e9) | subst ho9 | skip); (try dsimp only); (try k_sweep); (try k_fold)))
  k_steps
  all_goals refine end0 hret (by k_asm) (by k_asm) (fun p hp => by repeat (first | exact hp | refine List.mem_cons_of_mem _ ?_)) ⟨_, congrArg (fun l => Value.str (S l) _) (Eq.trans ?_ (Eq.symm (text_bits (by decide))))⟩
  · exact bits_t_neg (by assumption)
  · exact bits_t_pos (by assumption)

set_option maxHeartbeats 4000000 in
theorem due_text_d {w : World} {news : List (Addr × Obj)} {l : List Nat} {t3 t4 t5 : Tok} {wd : Int} (O : Oct l) (h1 : -1 ≤ wd) (h2 : wd ≤ 100) :
    Ct0 w 245 3 news [.str (S [100]) t4, .int wd t5, .str (S l) t3] (fun r => ∃ u, r = .str (S (oneTextL 100 l wd)) u) := by
  have hl8 := O.short
  have hn9 : 8 * max l.length 1 ≤ 40 := by omega
  have ha := tval_Small O
  have ha2 := tval_lt2 O
  w_top off
  k_with_none
  k_with "mem" => first | (with_reducible assumption) | exact List.Mem.head _ | (refine List.mem_cons_of_mem _ ?_; k_extra "mem") | (refine List.mem_append.mpr (.inl ?_); k_extra "mem") | (refine List.mem_append.mpr (.inr ?_); k_extra "mem")
  unfold Ct0
  k_fill
  intro fp9 loose9 mean9 mg9 mb9 dp un gd9 cn9 cs9 fa9 ccd9 cl9 outer9 A9 base9 hz9 L9 m9 s9 Q9 E9 B9 F9 X9 N9 T9 hk9 hd9 hu9 hret
  refine wpAny_call ?_
  k_dflt cell_enter
  k_with "mine call" => (k_dflt (refine' CtT.use (law_text_arg_c ?hO) ?u1 ?u2 ?u3 ?u4 ?u5 ?uK ?ud ?uu ?_; (case u1 => k_asm); (case u2 => k_asm); (case u3 => k_asm); (case u4 => k_asm); (case u5 => k_asm); (case uK => first | exact rfl | assumption); (case ud => ktr_room); (case uu => ktr_units); (case hO => assumption); intro D9 h9 tk9 o9 F9 N9 l9 ho9; (try k_lt l9); (first | (obtain ⟨t91, t92, t93, c9, e9⟩ := ho9; subst e9) | (obtain ⟨t9, e9⟩ := ho9; subst e9) | subst ho9 | skip); (try dsimp only); (try k_sweep); (try k_fold)))
  k_with "mine call" => (k_dflt (refine' Ct0.use (law_number_c ?hD ?h0 ?hn ?ha ?ha2) ?u1 ?u2 ?u3 ?u4 ?u5 ?uK ?ud ?uu ?_; (case u1 => k_asm); (case u2 => k_asm); (case u3 => k_asm); (case u4 => k_asm); (case u5 => k_asm); (case uK => first | exact rfl | assumption); (case ud => ktr_room); (case uu => ktr_units); (case hD => k_extra "mem"); (case h0 => first | assumption | omega); (case hn => first | assumption | omega); (case ha => assumption); (case ha2 => assumption); intro r9 h9 tk9 F9 N9 ho9; (first | (obtain ⟨t91, t92, t93, c9, e9⟩ := ho9; subst e9) | (obtain ⟨t9, e9⟩ := ho9; subst e9) | subst ho9 | skip); (try dsimp only); (try k_sweep); (try k_fold)))
  have hdl := decL_len (b := 0) (sg := false) ha hn9
  have hp9 := Nat.two_pow_pos (8 * max l.length 1)
  have hm1 := numL_len (sm_half2 (n := 8 * max l.length 1) hn9)
  have hm2 := numL_len (sm_mask (n := 8 * max l.length 1) hn9)
  k_with "mine call" => (k_dflt (refine' Ct0.use (law_blanks_c ?hl ?h1 ?h2) ?u1 ?u2 ?u3 ?u4 ?u5 ?uK ?ud ?uu ?_; (case u1 => k_asm); (case u2 => k_asm); (case u3 => k_asm); (case u4 => k_asm); (case u5 => k_asm); (case uK => first | exact rfl | assumption); (case ud => ktr_room); (case uu => ktr_units); (case hl => omega); (case h1 => omega); (case h2 => omega); intro r9 h9 tk9 F9 N9 ho9; (first | (obtain ⟨t91, t92, t93, c9, e9⟩ := ho9; subst e9) | (obtain ⟨t9, e9⟩ := ho9; subst e9) | subst ho9 | skip); (try dsimp only); (try k_sweep); (try k_fold)))
  k_with "call type:str" => (k_dflt (refine' r_str ?h ?_; (case h => first | exact sm_half2 hn9 | exact sm_mask hn9)); intro t9 tk9)
  k_with "call builtin:len" => (k_dflt (refine' r_len ?hx ?hl ?_; (case hx => exact rfl); (case hl => omega)); intro t9 tk9)
  k_steps
  all_goals refine end0 hret (by k_asm) (by k_asm) (fun p hp => by repeat (first | exact hp | refine List.mem_cons_of_mem _ ?_)) ⟨_, congrArg (fun l => Value.str (S l) _) (Eq.trans ?_ (Eq.symm (text_bits (by decide))))⟩
  all_goals first
    | exact bits_d_pos (by omega)
    | exact bits_d_neg1 (by omega) (by assumption) rfl
    | exact bits_d_neg2 (by omega) (by simp_all) rfl

local macro_rules | `(tactic| walk_at "binaryOp FloorDiv int int") => `(tactic| k_extra "binaryOp FloorDiv int int")
local macro_rules | `(tactic| walk_at "binaryOp Mod int int") => `(tactic| k_extra "binaryOp Mod int int")
local macro_rules | `(tactic| walk_at "binaryOp Mult int int") => `(tactic| k_extra "binaryOp Mult int int")
local macro_rules | `(tactic| walk_at "binaryOp Add int int") => `(tactic| k_extra "binaryOp Add int int")
local macro_rules | `(tactic| walk_at "subscriptTail Name BinOp ref int") => `(tactic| k_extra "subscriptTail Name BinOp ref int")
local macro_rules | `(tactic| walk_at "setItem ref int") => `(tactic| k_extra "setItem ref int")
local macro_rules | `(tactic| walk_at "binaryOp Pow int int") => `(tactic| k_extra "binaryOp Pow int int")
/-- a contract: one object of the ledger is changed -/
def CtU (w : World) (f : Addr) (D : Nat) (J : Addr) (o : Obj) (rest : List (Addr × Obj)) (vs : List Value) (Post : Value → Obj → Prop) : Prop :=
  ∀ (p : Program) (loose : List Str) (mean : ExcName → Option Value) (mg mb : Str → Option Value) (dp un : Nat) (gd : Option (List Code)) (cn : Str) (cs : Scope) (a : Addr) (ccd : Value) (cl : List (Str × Addr)) (outer : List Env) (A₀ : Around) (base h₀ : Heap) (L : Addr) (m : Str → Option Value) (s : Shared) (Q E : Value → Shared → Prop),
    Below A₀ base outer h₀ → Fr h₀ L s.heap m → (hd.heap_1 w.params).In h₀ → News h₀ L s.heap ((J, o) :: rest) → Top p loose mean mg mb h₀ → cs.kind = .function → dp + D < recursionLimit → un + 8 * D < cLine →
    (∀ r h' tk' o', Fr h₀ L h' m → News h₀ L h' ((J, o') :: rest) → Post r o' → Q r { s with heap := h', toks := tk' }) →
    wpAny (model PySem.Challenge.rw_on0103_01.row.prog w) (ktrTop dp un gd cn cs L a ccd cl outer) (call (.ref f) vs) Q E s
theorem CtU.use {w : World} {f : Addr} {D : Nat} {J : Addr} {o : Obj} {news : List (Addr × Obj)} {g : Obj → List (Addr × Obj)} {vs : List Value} {Post : Value → Obj → Prop} (C : ∀ rest, (∀ p ∈ news, p.1 ≠ J → p ∈ rest) → (∀ p ∈ rest, p.1 ≠ J) → CtU w f D J o rest vs Post)
    {p : Program} {loose : List Str} {mean : ExcName → Option Value} {mg mb : Str → Option Value} {dp un : Nat} {gd : Option (List Code)} {cn : Str} {cs : Scope} {a : Addr} {ccd : Value} {cl : List (Str × Addr)} {outer : List Env} {A₀ : Around} {base h₀ : Heap} {L : Addr} {m : Str → Option Value} {s : Shared} {Q E : Value → Shared → Prop}
    (B : Below A₀ base outer h₀) (F : Fr h₀ L s.heap m) (X : (hd.heap_1 w.params).In h₀) (N : News h₀ L s.heap news) (T : Top p loose mean mg mb h₀) (hk : cs.kind = .function) (hd : dp + D < recursionLimit) (hu : un + 8 * D < cLine)
    (U : UpdF J o news g)
    (ret : ∀ r h' tk' o', Fr h₀ L h' m → News h₀ L h' (g o') → Post r o' → Q r { s with heap := h', toks := tk' }) :
    wpAny (model PySem.Challenge.rw_on0103_01.row.prog w) (ktrTop dp un gd cn cs L a ccd cl outer) (call (.ref f) vs) Q E s := by
  obtain ⟨pre, post, rfl, hg, h1, h2⟩ := U.split
  have hr : ∀ p ∈ pre ++ post, p.1 ≠ J := fun q hq => by
    rcases List.mem_append.mp hq with hq | hq
    · exact h1 q hq
    · exact h2 q hq
  refine C (pre ++ post) (fun q hq hn => ?_) hr p loose mean mg mb dp un gd cn cs a ccd cl outer A₀ base h₀ L m s Q E B F X (fun q hq => N q ?_) T hk hd hu fun r h' tk' o' F' N' hp => ret r h' tk' o' F' (hg o' ▸ fun q hq => N' q ?_) hp
  · rcases List.mem_append.mp hq with hq | hq
    · exact List.mem_append_left _ hq
    · rcases List.mem_cons.mp hq with rfl | hq
      · exact absurd rfl hn
      · exact List.mem_append_right _ hq
  · rcases List.mem_cons.mp hq with rfl | hq
    · exact List.mem_append_right _ (List.mem_cons_self ..)
    · rcases List.mem_append.mp hq with hq | hq
      · exact List.mem_append_left _ hq
      · exact List.mem_append_right _ (List.mem_cons_of_mem _ hq)
  · rcases List.mem_append.mp hq with hq | hq
    · exact List.mem_cons_of_mem _ (List.mem_append_left _ hq)
    · rcases List.mem_cons.mp hq with rfl | hq
      · exact List.mem_cons_self ..
      · exact List.mem_cons_of_mem _ (List.mem_append_right _ hq)
/-- the jar as the program holds it -/
abbrev jarO (a b : Nat) (X : Addr) (t1 t2 : Tok) (c : Nat) : Obj := listOf [Value.int (a : Int) t1, Value.int (b : Int) t2, Value.ref X].toArray c
/-- a count of a draw: none of its bounds burns -/
structure Cnt (q : Nat) : Prop where
  pos : 0 < q
  lt : q < 2 ^ 64
theorem Cnt.log {q : Nat} (h : Cnt q) : (q : Int).natAbs.log2 < 64 := by
  rw [Int.natAbs_natCast]
  exact (Nat.log2_lt (Nat.ne_of_gt h.pos)).mpr h.lt
section
variable {prog : Program} {w : World} {A : Around} {E : Value → Shared → Prop} {s : Shared} {a b : Nat} {t u : Tok} {Q : Value → Shared → Prop} {x y : Int}
theorem n_fdivC (hx : x = (a : Int)) (hy : y = (b : Int)) (hb : Cnt b) (h : Q (.int ((a / b : Nat) : Int) s.toks) { s with toks := s.toks + 1 }) : wpAny (model prog w) A (binaryOp .FloorDiv (.int x t) (.int y u)) Q E s := by
  subst hx hy
  have := hb.pos
  refine floordiv_int (by omega) ?_ (Or.inl (PyProof.noPylong_of_log2 (Nat.lt_trans hb.log (by decide))))
  rw [Int.fdiv_eq_ediv_of_nonneg _ (Int.natCast_nonneg _), ← Int.natCast_ediv]; exact h
theorem n_modI (hy : y = (b : Int)) (hb : 0 < b) (h : ∀ z : Nat, z < b → Q (.int (z : Int) s.toks) { s with toks := s.toks + 1 }) : wpAny (model prog w) A (binaryOp .Mod (.int x t) (.int y u)) Q E s :=
  mod_int' (by omega) (by
    subst hy
    have h1 := fmod_lo x (n := (b : Int)) (by omega)
    have h2 := fmod_hi x (n := (b : Int)) (by omega)
    obtain ⟨z, hz⟩ := Int.eq_ofNat_of_zero_le h1
    rw [hz] at h2 ⊢
    exact h z (by omega))
theorem n_mulR (hx : x = (a : Int)) (hy : y = (b : Int)) (ha : b < 1000000) (h : Q (.int ((a * b : Nat) : Int) s.toks) { s with toks := s.toks + 1 }) : wpAny (model prog w) A (binaryOp .Mult (.int x t) (.int y u)) Q E s :=
  PyProof.Rows.mul_int (by subst hx; subst hy; rw [← Int.natCast_mul]; exact h) (PySem.IntMulOk.of_right (PySem.intBits_le_64 (by omega) (by omega)))
theorem n_mulB (hx : x = (a : Int)) (hy : y = (b : Int)) (ha : a < 1000000000000) (h : Q (.int ((a * b : Nat) : Int) s.toks) { s with toks := s.toks + 1 }) : wpAny (model prog w) A (binaryOp .Mult (.int x t) (.int y u)) Q E s :=
  PyProof.Rows.mul_int (by subst hx; subst hy; rw [← Int.natCast_mul]; exact h) (PySem.IntMulOk.of_left (PySem.intBits_le_64 (by omega) (by omega)))
end

theorem litM : (1000000007 : Int) = ((1000000007 : Nat) : Int) := rfl
theorem lit10 : (10 : Int) = ((10 : Nat) : Int) := rfl
theorem lit18 : (18 : Int) = ((18 : Nat) : Int) := rfl
theorem lit60 : (60 : Int) = ((60 : Nat) : Int) := rfl
theorem lit7919 : (7919 : Int) = ((7919 : Nat) : Int) := rfl
theorem lit69069 : (69069 : Int) = ((69069 : Nat) : Int) := rfl
theorem lit3 : (3 : Int) = ((3 : Nat) : Int) := rfl

set_option maxHeartbeats 4000000 in
theorem draw_c {w : World} {rest : List (Addr × Obj)} {J X : Addr} {a b q c cx : Nat} {t1 t2 t3 : Tok} {xs : List Value} {ns : List Int} (hX : (X, listOf xs.toArray cx) ∈ rest) (hI : IntsAre xs ns) (h0 : 0 < ns.length) (h40 : ns.length ≤ 40) (hb : b < 1000) (hq : Cnt q) (hne : ∀ p ∈ rest, p.1 ≠ J) :
    CtU w 182 2 J (jarO a b X t1 t2 c) rest [.ref J, .int (q : Int) t3] (fun r o' => ∃ (z a' b' : Nat) (u u1 u2 : Tok) (c' : Nat), r = .int (z : Int) u ∧ z < q ∧ o' = jarO a' b' X u1 u2 c' ∧ b' ≤ b + 1) := by
  w_top off
  k_with_none
  k_with "mem" => first | (with_reducible assumption) | exact List.Mem.head _ | (refine List.mem_cons_of_mem _ ?_; k_extra "mem") | (refine List.mem_append.mpr (.inl ?_); k_extra "mem") | (refine List.mem_append.mpr (.inr ?_); k_extra "mem")
  unfold CtU
  k_fill
  intro fp9 loose9 mean9 mg9 mb9 dp un gd9 cn9 cs9 fa9 ccd9 cl9 outer9 A9 base9 hz9 L9 m9 s9 Q9 E9 B9 F9 X9 N9 T9 hk9 hd9 hu9 hret
  refine wpAny_call ?_
  k_dflt cell_enter
  have hl := hI.length
  have hq0 := hq.pos
  k_with "call builtin:len" => k_dflt (refine' len_ints_fit (ns := ns) ?hl ?hi ?hf ?_; (case hl => exact News.isList (by k_asm) (by k_extra "mem")); (case hi => assumption); (case hf => omega))
  k_with "subscriptTail Name BinOp ref int" => (k_dflt (refine' item_list_ints (ns := ns) ?hl ?hi ?h0 ?h1 ?hf ?_; (case hl => exact News.isList (by k_asm) (by k_extra "mem")); (case hi => assumption); (case h0 => omega); (case h1 => exact Int.ofNat_lt.mpr (Nat.mod_lt _ h0)); (case hf => exact Int.lt_trans (Int.ofNat_lt.mpr (Nat.mod_lt _ h0)) (by omega))); intro t9; (generalize ns.getD _ _ = cl9))
  k_with "binaryOp FloorDiv int int" => k_dflt (refine' n_fdivC ?hx ?hy ?hb ?_; (case hx => with_reducible rfl); (case hy => with_reducible rfl); (case hb => assumption))
  k_with "binaryOp Mod int int" => k_dflt (first
    | (refine' n_mod ?hx ?hy ?hb ?_; (case hx => with_reducible rfl); (case hy => with_reducible rfl); (case hb => omega))
    | (refine' n_modI (b := 1000000007) ?hy ?hb ?_; (case hy => with_reducible exact litM); (case hb => decide); (intro z9 hz9))
    | (refine' n_modI ?hy ?hb ?_; (case hy => with_reducible rfl); (case hb => exact Nat.pow_pos (by decide)); (intro z9 hz9)))
  k_with "binaryOp Pow int int" => k_dflt (refine' n_pow (a := 10) ?hx ?hy ?hb ?ha ?_; (case hx => with_reducible exact lit10); (case hy => first | with_reducible exact lit18 | with_reducible exact lit60); (case hb => decide); (case ha => decide))
  k_with "binaryOp Mult int int" => k_dflt (first
    | (refine' n_mul (a := 7919) ?hx ?hy ?ha ?_; (case hx => with_reducible exact lit7919); (case hy => with_reducible rfl); (case ha => decide))
    | (refine' n_mulR (b := 69069) ?hx ?hy ?ha ?_; (case hx => with_reducible rfl); (case hy => with_reducible exact lit69069); (case ha => decide))
    | (refine' n_mulB ?hx ?hy ?ha ?_; (case hx => with_reducible rfl); (case hy => with_reducible rfl); (case ha => omega)))
  k_with "binaryOp Add int int" => k_dflt (refine' n_add ?hx ?hy ?_; (case hx => with_reducible rfl); (case hy => first | with_reducible rfl | with_reducible exact lit1 | with_reducible exact lit3))
  k_with "setItem ref int" => k_dflt ((refine' ki_set ?F ?N ?a ?b ?e ?U ?_; (case F => k_asm); (case N => k_asm); (case U => exact Upd.head hne); (case a => decide); (case b => decide); (case e => rfl)); ki_rest)
  k_steps
  all_goals first
    | exact hret _ _ _ _ (by k_asm) (by k_asm) ⟨_, _, _, _, _, _, _, rfl, Nat.mod_lt _ hq0, rfl, by omega⟩
    | exact hret _ _ _ _ (by k_asm) (by k_asm) ⟨0, _, _, _, _, _, _, rfl, hq0, rfl, by omega⟩

-- nolocal
theorem draw_use {w : World} {news : List (Addr × Obj)} {g : Obj → List (Addr × Obj)} {J X : Addr} {a b q c cx : Nat} {t1 t2 t3 : Tok} {xs : List Value} {ns : List Int}
    {p : Program} {loose : List Str} {mean : ExcName → Option Value} {mg mb : Str → Option Value} {dp un : Nat} {gd : Option (List Code)} {cn : Str} {cs : Scope} {fa : Addr} {ccd : Value} {cl : List (Str × Addr)} {outer : List Env} {A₀ : Around} {base h₀ : Heap} {L : Addr} {m : Str → Option Value} {s : Shared} {Q E : Value → Shared → Prop}
    (B : Below A₀ base outer h₀) (F : Fr h₀ L s.heap m) (KX : (hd.heap_1 w.params).In h₀) (N : News h₀ L s.heap news) (T : Top p loose mean mg mb h₀) (hk : cs.kind = .function) (hdp : dp + 2 < recursionLimit) (hu : un + 8 * 2 < cLine)
    (U : UpdF J (jarO a b X t1 t2 c) news g) (hX : (X, listOf xs.toArray cx) ∈ news) (hne : X ≠ J) (hI : IntsAre xs ns) (h0 : 0 < ns.length) (h40 : ns.length ≤ 40) (hb : b < 1000) (hq : Cnt q)
    (ret : ∀ (z a' b' : Nat) (u u1 u2 : Tok) (c' : Nat) h' tk', z < q → b' ≤ b + 1 → Fr h₀ L h' m → News h₀ L h' (g (jarO a' b' X u1 u2 c')) → Q (.int (z : Int) u) { s with heap := h', toks := tk' }) :
    wpAny (model PySem.Challenge.rw_on0103_01.row.prog w) (ktrTop dp un gd cn cs L fa ccd cl outer) (call (.ref 182) [.ref J, .int (q : Int) t3]) Q E s :=
  CtU.use (fun _ hr hne' => draw_c (hr _ hX hne) hI h0 h40 hb hq hne') B F KX N T hk hdp hu U fun r h' tk' o' F' N' hp => by
    obtain ⟨z, a', b', u, u1, u2, c', rfl, hz, rfl, hb'⟩ := hp
    exact ret z a' b' u u1 u2 c' h' tk' hz hb' F' N'
theorem cnt_lit {q : Nat} (h : (decide (0 < q) && decide (q < 18446744073709551616)) = true) : Cnt q := by
  simp only [Bool.and_eq_true, decide_eq_true_eq] at h
  exact ⟨h.1, h.2⟩
theorem take_pos (ns : List Int) : 0 < (List.take (Int.toNat 40) (ns ++ [0])).length := by
  rw [List.length_take, List.length_append]
  show 0 < min 40 (ns.length + 1)
  omega
theorem take_le (ns : List Int) : (List.take (Int.toNat 40) (ns ++ [0])).length ≤ 40 := by
  rw [List.length_take]
  exact Nat.min_le_left 40 _

-- nolocal
theorem due_vec_all {w : World} {news : List (Addr × Obj)} {D R : Addr} {n a b : Nat} {t1 t2 t3 t4 t5 : Tok} {c c2 k : Nat} {sg : Bool} {wd : Int} (hR : (R, argO D sg c2) ∈ news) (hD : (D, vecO n a b t1 t2 t3 c) ∈ news) (h0 : 0 < n) (hn : n ≤ 40) (ha : Small a) (ha2 : a < 2 ^ n) (hk : Letter k) (h1 : -1 ≤ wd) (h2 : wd ≤ 100) :
    Ct0 w 245 3 news [.str (S [k]) t4, .int wd t5, .ref R] (fun r => ∃ u, r = .str (S (oneVecL k n a b sg wd)) u) := by
  rcases hk with rfl | rfl | rfl | rfl | rfl | rfl | rfl | rfl
  · exact due_vec_g (k := 98) (sz := 1) ⟨by decide⟩ hR hD h0 hn ha ha2 h1 h2
  · exact due_vec_g (k := 111) (sz := 3) ⟨by decide⟩ hR hD h0 hn ha ha2 h1 h2
  · exact due_vec_d hR hD h0 hn ha ha2 h1 h2
  · exact due_vec_g (k := 104) (sz := 4) ⟨by decide⟩ hR hD h0 hn ha ha2 h1 h2
  · exact due_vec_g (k := 120) (sz := 4) ⟨by decide⟩ hR hD h0 hn ha ha2 h1 h2
  · exact due_vec_c hR hD h0 hn ha ha2 h1 h2
  · exact due_vec_s hR hD h0 hn ha ha2 h1 h2
  · exact due_vec_t hR hD h0 hn ha ha2 h1 h2
theorem due_text_all {w : World} {news : List (Addr × Obj)} {l : List Nat} {t3 t4 t5 : Tok} {k : Nat} {wd : Int} (O : Oct l) (hk : Letter k) (h1 : -1 ≤ wd) (h2 : wd ≤ 100) :
    Ct0 w 245 3 news [.str (S [k]) t4, .int wd t5, .str (S l) t3] (fun r => ∃ u, r = .str (S (oneTextL k l wd)) u) := by
  rcases hk with rfl | rfl | rfl | rfl | rfl | rfl | rfl | rfl
  · exact due_text_g (k := 98) (sz := 1) ⟨by decide⟩ O h1 h2
  · exact due_text_g (k := 111) (sz := 3) ⟨by decide⟩ O h1 h2
  · exact due_text_d O h1 h2
  · exact due_text_g (k := 104) (sz := 4) ⟨by decide⟩ O h1 h2
  · exact due_text_g (k := 120) (sz := 4) ⟨by decide⟩ O h1 h2
  · exact due_text_c O h1 h2
  · exact due_text_s O h1 h2
  · exact due_text_t O h1 h2

local macro_rules | `(tactic| walk_at "binaryOp Sub int int") => `(tactic| k_extra "binaryOp Sub int int")
/-- a contract: one object of the ledger is changed, and a new one is handed back -/
def CtV (w : World) (f : Addr) (D : Nat) (J : Addr) (o : Obj) (rest : List (Addr × Obj)) (vs : List Value) (Post : Obj → Obj → Prop) : Prop :=
  ∀ (p : Program) (loose : List Str) (mean : ExcName → Option Value) (mg mb : Str → Option Value) (dp un : Nat) (gd : Option (List Code)) (cn : Str) (cs : Scope) (a : Addr) (ccd : Value) (cl : List (Str × Addr)) (outer : List Env) (A₀ : Around) (base h₀ : Heap) (L : Addr) (m : Str → Option Value) (s : Shared) (Q E : Value → Shared → Prop),
    Below A₀ base outer h₀ → Fr h₀ L s.heap m → (hd.heap_1 w.params).In h₀ → News h₀ L s.heap ((J, o) :: rest) → Top p loose mean mg mb h₀ → cs.kind = .function → dp + D < recursionLimit → un + 8 * D < cLine →
    (∀ V h' tk' v o', Fr h₀ L h' m → News h₀ L h' ((V, v) :: (J, o') :: rest) → (∀ p ∈ (J, o') :: rest, p.1 < V) → Post v o' → Q (.ref V) { s with heap := h', toks := tk' }) →
    wpAny (model PySem.Challenge.rw_on0103_01.row.prog w) (ktrTop dp un gd cn cs L a ccd cl outer) (call (.ref f) vs) Q E s
theorem cnt_pow {n : Nat} (h : n ≤ 40) : Cnt (2 ^ n) := ⟨Nat.two_pow_pos n, Nat.lt_of_le_of_lt (two40 h) (by decide)⟩
theorem cnt40 : Cnt 40 := cnt_lit (by decide)
theorem cnt4 : Cnt 4 := cnt_lit (by decide)
theorem int40 : (40 : Int) = ((40 : Nat) : Int) := rfl
theorem int4 : (4 : Int) = ((4 : Nat) : Int) := rfl
theorem pow_lt {n : Nat} : 2 ^ n - 1 < 2 ^ n := Nat.sub_lt (Nat.two_pow_pos n) (by decide)

set_option maxHeartbeats 4000000 in
theorem law_vector_c {w : World} {rest : List (Addr × Obj)} {J X : Addr} {a b c cx : Nat} {t1 t2 : Tok} {xs : List Value} {ns : List Int} (hX : (X, listOf xs.toArray cx) ∈ rest) (hI : IntsAre xs ns) (h0 : 0 < ns.length) (h40 : ns.length ≤ 40) (hb : b < 990) (hne : ∀ p ∈ rest, p.1 ≠ J) :
    CtV w 189 3 J (jarO a b X t1 t2 c) rest [.ref J] (fun v o' => ∃ (n x y : Nat) (v1 v2 v3 : Tok) (cv a' b' : Nat) (u1 u2 : Tok) (c' : Nat), v = vecO n x y v1 v2 v3 cv ∧ o' = jarO a' b' X u1 u2 c' ∧ b' ≤ b + 4 ∧ 0 < n ∧ n ≤ 40 ∧ x < 2 ^ n ∧ y < 2 ^ n) := by
  w_top off
  k_with_none
  k_with "mem" => first | (with_reducible assumption) | exact List.Mem.head _ | (refine List.mem_cons_of_mem _ ?_; k_extra "mem") | (refine List.mem_append.mpr (.inl ?_); k_extra "mem") | (refine List.mem_append.mpr (.inr ?_); k_extra "mem")
  unfold CtV
  k_fill
  intro fp9 loose9 mean9 mg9 mb9 dp un gd9 cn9 cs9 fa9 ccd9 cl9 outer9 A9 base9 hz9 L9 m9 s9 Q9 E9 B9 F9 X9 N9 T9 hk9 hd9 hu9 hret
  refine wpAny_call ?_
  k_dflt cell_enter
  have hXJ : X ≠ J := hne _ hX
  k_with "mine call" => (k_dflt (first
     | (refine' draw_use (q := 40) ?u1 ?u2 ?u3 ?u4 ?u5 ?uK ?ud ?uu ?uU ?m1 ?m2 ?m3 ?m4 ?m5 ?m6 ?m7 ?_; (case m7 => exact cnt40))
     | (refine' draw_use (q := 4) ?u1 ?u2 ?u3 ?u4 ?u5 ?uK ?ud ?uu ?uU ?m1 ?m2 ?m3 ?m4 ?m5 ?m6 ?m7 ?_; (case m7 => exact cnt4))
     | (refine' draw_use ?u1 ?u2 ?u3 ?u4 ?u5 ?uK ?ud ?uu ?uU ?m1 ?m2 ?m3 ?m4 ?m5 ?m6 ?m7 ?_; (case m7 => exact cnt_pow (by omega)))); (case u1 => k_asm); (case u2 => k_asm); (case u3 => k_asm); (case u4 => k_asm); (case u5 => k_asm); (case uK => first | exact rfl | assumption); (case ud => ktr_room); (case uu => ktr_units); (case uU => exact UpdF.head hne); (case m1 => exact List.mem_cons_of_mem _ hX); (case m2 => exact hXJ); (case m3 => exact hI); (case m4 => exact h0); (case m5 => exact h40); (case m6 => omega); (intro z9 a9 b9 u9 v9 w9 c9 h9 tk9 hz9 hb9 F9 N9); (try dsimp only at N9 ⊢); (try k_sweep); (try k_fold))
  k_with "binaryOp Pow int int" => k_dflt (refine' n_pow (a := 2) ?hx ?hy ?hb ?ha ?_; (case hx => with_reducible exact lit2); (case hy => with_reducible rfl); (case hb => omega); (case ha => decide))
  k_with "binaryOp Mod int int" => k_dflt (refine' n_mod (b := 2) ?hx ?hy ?hb ?_; (case hx => with_reducible rfl); (case hy => with_reducible exact lit2); (case hb => decide))
  k_with "binaryOp Add int int" => k_dflt (refine' n_add ?hx ?hy ?_; (case hx => first | with_reducible rfl | with_reducible exact lit1); (case hy => first | with_reducible rfl | with_reducible exact lit1))
  k_with "binaryOp Sub int int" => k_dflt (refine' n_sub (b := 1) ?hx ?hy ?hb ?_; (case hx => with_reducible rfl); (case hy => with_reducible exact lit1); (case hb => exact Nat.two_pow_pos _))
  k_steps
  all_goals first
    | exact hret _ _ _ _ _ (by k_asm) (by k_asm) (fun p hp => kst_ltOf (l := (J, jarO _ _ X _ _ _) :: rest) (by assumption) p hp) ⟨_, _, 0, _, _, _, _, _, _, _, _, _, rfl, rfl, by omega, by omega, by omega, by assumption, Nat.two_pow_pos _⟩
    | exact hret _ _ _ _ _ (by k_asm) (by k_asm) (fun p hp => kst_ltOf (l := (J, jarO _ _ X _ _ _) :: rest) (by assumption) p hp) ⟨_, _, _, _, _, _, _, _, _, _, _, _, rfl, rfl, by omega, by omega, by omega, by assumption, by assumption⟩
    | exact hret _ _ _ _ _ (by k_asm) (by k_asm) (fun p hp => kst_ltOf (l := (J, jarO _ _ X _ _ _) :: rest) (by assumption) p hp) ⟨_, _, _, _, _, _, _, _, _, _, _, _, rfl, rfl, by omega, by omega, by omega, pow_lt, pow_lt⟩
    | exact hret _ _ _ _ _ (by k_asm) (by k_asm) (fun p hp => kst_ltOf (l := (J, jarO _ _ X _ _ _) :: rest) (by assumption) p hp) ⟨_, 0, _, _, _, _, _, _, _, _, _, _, rfl, rfl, by omega, by omega, by omega, Nat.two_pow_pos _, pow_lt⟩

-- nolocal
/-- the jar's letters at the law's loop -/
structure JarSt where
  a : Nat
  b : Nat
  c : Nat
  t1 : Tok
  t2 : Tok
/-- what a turn of the law's loop leaves -/
def JarEnd (g : Obj → List (Addr × Obj)) (X : Addr) (x : Str) (stored : List Str) (m₀ : Str → Option Value) (top : Nat) (m' : Str → Option Value) (nx : List (Addr × Obj)) : Prop :=
  ∃ (a b c : Nat) (t1 t2 : Tok), nx = g (jarO a b X t1 t2 c) ∧ b ≤ top ∧ ∀ z, z ≠ x → stored.contains z = false → m' z = m₀ z
theorem updF_addr {J : Addr} {o : Obj} {news : List (Addr × Obj)} {g : Obj → List (Addr × Obj)} (U : UpdF J o news g) (o' : Obj) : (g o').map (·.1) = news.map (·.1) := by
  obtain ⟨pre, post, rfl, hg, _, _⟩ := U.split
  rw [hg, List.map_append, List.map_append]
  rfl
theorem updF_self {J : Addr} {o : Obj} {news : List (Addr × Obj)} {g : Obj → List (Addr × Obj)} (U : UpdF J o news g) : g o = news := by
  obtain ⟨pre, post, rfl, hg, _, _⟩ := U.split
  exact hg o
/-- the law's loop: the jar changes from turn to turn, the rest of the ledger stands -/
theorem law_range {prog : Program} {w : World} {A : Around} {E : Value → Shared → Prop} {s : Shared} {env : Env} {L : Addr} {h₀ : Heap} {x : Str} {body : List Stmt} {Q : Flow → Shared → Prop} {r : Addr} {a₀ b₀ : Int} {t₀ u₀ v₀ : Tok} {n : Nat} {m₀ : Str → Option Value} {J X : Addr} {news : List (Addr × Obj)} {g : Obj → List (Addr × Obj)} {a b c : Nat} {t1 t2 : Tok} (stored : List Str) (hL : env.locals = L)
    (hh : A.handled = none) (hr : IsRange s.heap r a₀ b₀ 1 t₀ u₀ v₀) (hsmall : Builtin.Range.small a₀ b₀ 1 = true) (hn : Builtin.Range.rangeSize a₀ b₀ 1 = (n : Int)) (hn4 : n ≤ 4) (F : Fr h₀ L s.heap m₀) (N : News h₀ L s.heap news) (U : UpdF J (jarO a b X t1 t2 c) news g) (hb : b ≤ 1)
    (turn : ∀ (a b c : Nat) (t1 t2 : Tok) (i : Nat) (k : Int) t (u : Str → Option Value) h tk own, i < 4 → b ≤ 1 + 12 * i → KstMark → OwnOff own (news.map (·.1)) →
      Fr h₀ L h (fun y => if y = x then some (.int k t) else if stored.contains y then u y else m₀ y) → News h₀ L h (g (jarO a b X t1 t2 c) ++ own) →
      wpAny (model prog w) A (execs body env) (InvPostN h₀ L (JarEnd g X x stored m₀ (b + 12)) own (news.map (·.1)) { s with heap := h, toks := tk } Q) E { s with heap := h, toks := tk })
    (done : ∀ (a b c : Nat) (t1 t2 : Tok) (u : Str → Option Value) h tk, KstMark → Fr h₀ L h (fun y => if y = x then u y else if stored.contains y then u y else m₀ y) → News h₀ L h (g (jarO a b X t1 t2 c)) → Q .next { s with heap := h, toks := tk }) :
    wpAny (model prog w) A (pyIter (.ref r)) (fun it s₂ => LoopAtV prog w A h₀ env x body Q E it s₂) E s := by
  subst hL
  refine kst_range (σ := JarSt) (fun d => g (jarO d.a d.b X d.t1 d.t2 d.c)) (fun _ => []) (fun _ => True) stored (fun pre d => d.b ≤ 1 + 12 * pre.length) ⟨a, b, c, t1, t2⟩ hh hr hsmall hn F ((updF_self U) ▸ N) True.intro (fun _ h => nomatch h) hb ?_ ?_
  · intro d pre k t u h tk own _ hlt hoff _ hP F' N'
    rw [(updF_self U)] at hoff
    refine wpAny_mono (turn d.a d.b d.c d.t1 d.t2 pre.length k t u h tk own (by omega) hP kstMark hoff F' N') (fun f s₂ p => ?_) fun _ _ e => e
    have up : InvEndN h₀ env.locals (JarEnd g X x stored m₀ (d.b + 12)) own (news.map (·.1)) { s with heap := h, toks := tk } s₂ →
        InvEndN h₀ env.locals (KstS (fun d : JarSt => g (jarO d.a d.b X d.t1 d.t2 d.c)) (fun _ => []) (fun _ => True) x stored m₀ (fun pre d => d.b ≤ 1 + 12 * pre.length) (pre ++ [k])) own ((g (jarO a b X t1 t2 c)).map (·.1)) { s with heap := h, toks := tk } s₂ := by
      rintro ⟨h', tk', m', news', nx, e, F1, N1, h1, h2, h3, a', b', c', u1, u2, hnx, hb', hm⟩
      refine ⟨h', tk', m', news', nx, e, F1, N1, h1, h2, by rw [(updF_addr U)]; exact h3, ⟨a', b', c', u1, u2⟩, hnx, True.intro, (fun _ h => nomatch h), fun z hz _ hs => hm z hz hs, ?_⟩
      show b' ≤ 1 + 12 * (pre ++ [k]).length
      rw [List.length_append]
      have : d.b ≤ 1 + 12 * pre.length := hP
      show b' ≤ 1 + 12 * (pre.length + 1)
      omega
    cases f with
    | ret v => exact p
    | brk => exact p
    | next => exact up p
    | cont => exact up p
  · intro d u h tk _ _ F' N'
    exact done d.a d.b d.c d.t1 d.t2 u h tk kstMark F' N'
/-- the end of a turn -/
theorem jar_end {g : Obj → List (Addr × Obj)} {X : Addr} {x : Str} {stored : List Str} {m₀ : Str → Option Value} {top : Nat} {h₀ : Heap} {L : Addr} {m' : Str → Option Value} {own news' : List (Addr × Obj)} {adr : List Addr} {s₁ : Shared} {h' : Heap} {tk : Nat} {a b c : Nat} {t1 t2 : Tok}
    (F : Fr h₀ L h' m') (N : News h₀ L h' news') (hn : ∀ p ∈ g (jarO a b X t1 t2 c), p ∈ news') (ho : ∀ p ∈ own, p ∈ news') (ha : (g (jarO a b X t1 t2 c)).map (·.1) = adr) (hb : b ≤ top) (hr : ∀ z, z ≠ x → stored.contains z = false → m' z = m₀ z) :
    InvEndN h₀ L (JarEnd g X x stored m₀ top) own adr s₁ { s₁ with heap := h', toks := tk } :=
  InvEndN.intro F N ⟨a, b, c, t1, t2, rfl, hb, hr⟩ ha hn ho

-- nolocal
/-- what one element of the law's comprehension leaves -/
def SignEnd (g : Obj → List (Addr × Obj)) (X : Addr) (top : Nat) (h₀ : Heap) (L : Addr) (m : Str → Option Value) (s₁ : Shared) (I : Addr) (oI : Obj) (C : Addr) (oC : Obj) (D : Addr) (oD : Obj) (y : Value) (s₂ : Shared) : Prop :=
  ∃ (h' : Heap) (tk : Nat) (ch : Nat) (t : Tok) (a b c : Nat) (t1 t2 : Tok), s₂ = { s₁ with heap := h', toks := tk } ∧ Fr h₀ L h' m ∧ News h₀ L h' ((I, oI) :: (C, oC) :: (D, oD) :: g (jarO a b X t1 t2 c)) ∧ y = .str (S [ch]) t ∧ ch < 256 ∧ b ≤ top
theorem sign_end {g : Obj → List (Addr × Obj)} {X : Addr} {top : Nat} {h₀ : Heap} {L : Addr} {m : Str → Option Value} {s₁ : Shared} {I : Addr} {oI : Obj} {C : Addr} {oC : Obj} {D : Addr} {oD : Obj} {h' : Heap} {tk ch a b c : Nat} {t t1 t2 : Tok} {all : List (Addr × Obj)}
    (F : Fr h₀ L h' m) (N : News h₀ L h' all) (sub : ∀ p ∈ (I, oI) :: (C, oC) :: (D, oD) :: g (jarO a b X t1 t2 c), p ∈ all) (hc : ch < 256) (hb : b ≤ top) : SignEnd g X top h₀ L m s₁ I oI C oC D oD (.str (S [ch]) t) { s₁ with heap := h', toks := tk } :=
  ⟨h', tk, ch, t, a, b, c, t1, t2, rfl, F, fun p hp => N p (sub p hp), rfl, hc, hb⟩
theorem off3_upd {J I C D : Addr} {o o' : Obj} {news : List (Addr × Obj)} {g : Obj → List (Addr × Obj)} (U : UpdF J o news g) {o2 : Obj} (h : LCg.Off3 I C D (g o2)) : LCg.Off3 I C D (g o') := by
  refine LCg.Off3.of fun p hp => ?_
  have e : p.1 ∈ (g o').map (·.1) := List.mem_map_of_mem hp
  rw [updF_addr U, ← updF_addr U o2] at e
  obtain ⟨q, hq, e⟩ := List.mem_map.mp e
  rw [← e]
  exact h.mem q hq
theorem strs_snoc {y : Str} {t : Tok} : ∀ {vs : List Value} {ys : List Str}, StrsAre vs ys → StrsAre (vs ++ [.str y t]) (ys ++ [y])
  | _, _, .nil => .cons y t .nil
  | _, _, .cons z u r => .cons z u (strs_snoc r)
theorem chs_snoc {ch : Nat} {t : Tok} {vs : List Value} {l : List Nat} (h : StrsAre vs (chs l)) : StrsAre (vs ++ [.str (S [ch]) t]) (chs (l ++ [ch])) := by
  rw [chs_app]
  exact strs_snoc h
theorem law_comp {prog : Program} {w : World} {A : Around} {h₀ : Heap} {L : Addr} {m : Str → Option Value} {env : Env} {elt : Expr} {x : Str} {scope : Scope} {cl : List (Str × Addr)} {s : Shared} {S' : List (Addr × Obj) → Prop} {P : Nat → Value → Prop} {Fin : List Value → List (Addr × Obj) → Prop} {J X : Addr} {news : List (Addr × Obj)} {g : Obj → List (Addr × Obj)} {n a b c : Nat} {t1 t2 : Tok}
    (U : UpdF J (jarO a b X t1 t2 c) news g) (hS' : ∀ nx, S' nx) (hn : n ≤ 4)
    (turn : ∀ v I oI C oC D m₂ ys h tk (E' : Value → Shared → Prop) (a b' c : Nat) (t1 t2 : Tok), b' ≤ b + n → LCg.NsObj oC m₂ → m₂ x = some v → Fr h₀ L h m → News h₀ L h ((I, oI) :: (C, oC) :: (D, LCg.lst ys) :: g (jarO a b' X t1 t2 c)) → LCg.Off3 I C D (g (jarO a b' X t1 t2 c)) → ((@Ne Nat I C) ∧ (@Ne Nat I D) ∧ (@Ne Nat C D)) → KPfMark →
      wpAny (model prog w) A (eval elt (compEnvC scope cl C env)) (SignEnd g X (b' + 1) h₀ L m { s with heap := h, toks := tk } I oI C oC D (LCg.lst ys)) E' { s with heap := h, toks := tk })
    (fin : ∀ ys (l : List Nat) (a b' c : Nat) (t1 t2 : Tok), Oct l → StrsAre ys (chs l) → b' ≤ b + n → Fin ys (g (jarO a b' X t1 t2 c))) : LCg.CompRest prog w A h₀ L m env elt x scope cl s S' P Fin n 0 [] news := by
  have key : ∀ (j i : Nat) (ys : List Value) (l : List Nat) (a b' c : Nat) (t1 t2 : Tok), i + j = n → l.length = i → (∀ d ∈ l, d < 256) → StrsAre ys (chs l) → b' ≤ b + i → LCg.CompRest prog w A h₀ L m env elt x scope cl s S' P Fin j i ys (g (jarO a b' X t1 t2 c)) := by
    intro j
    induction j with
    | zero =>
      intro i ys l a b' c t1 t2 hi hl ho hy hb
      exact LCg.CompRest.zero (fin ys l a b' c t1 t2 ⟨by omega, ho⟩ hy (by omega))
    | succ j ih =>
      intro i ys l a b' c t1 t2 hi hl ho hy hb
      refine LCg.CompRest.succ ?_
      intro v I oI C oC D m₂ h tk E' _ hC hx F N off ne
      refine wpAny_mono (turn v I oI C oC D m₂ ys h tk E' a b' c t1 t2 (by omega) hC hx F N off ne True.intro) (fun y s₂ hq => ?_) fun _ _ e => e
      obtain ⟨h', tk', ch, t, a2, b2, c2, u1, u2, e, F', N', hy', hch, hb2⟩ := hq
      subst hy'
      refine ⟨h', tk', _, e, F', N', off3_upd U off, hS' _, ih (i + 1) _ (l ++ [ch]) a2 b2 c2 u1 u2 (by omega) (by rw [List.length_append, hl]; rfl) ?_ (chs_snoc hy) (by omega)⟩
      intro d hd
      rcases List.mem_append.mp hd with hd | hd
      · exact ho d hd
      · rw [List.mem_singleton.mp hd]; exact hch
  rw [← (updF_self U)]
  exact key n 0 [] [] a b c t1 t2 (by omega) rfl (fun _ h => nomatch h) .nil (Nat.le_add_right _ _)
def signs4 : List Nat := [97, 90, 32, 255]
section
variable {prog : Program} {w : World} {A : Around} {E : Value → Shared → Prop} {s : Shared} {h₀ : Heap} {L D : Addr} {m : Str → Option Value} {news : List (Addr × Obj)} {Q : Value → Shared → Prop}
theorem item_four {value slice : Expr} {x0 x1 x2 x3 : Str} {u0 u1 u2 u3 u : Tok} {k : Int} {z cn : Nat} (N : News h₀ L s.heap news) (hm : (D, listOf #[.str x0 u0, .str x1 u1, .str x2 u2, .str x3 u3] cn) ∈ news)
    (e0 : x0 = S [97]) (e1 : x1 = S [90]) (e2 : x2 = S [32]) (e3 : x3 = S [255]) (hk : k = (z : Int)) (hz : z < 4) (h : ∀ ch t, ch < 256 → Q (.str (S [ch]) t) s)
    (hs : subscripted slice false (.ref D) (.int k u) = operate [.ref D, .int k u] (getItem (.ref D) (.int k u)) := by with_unfolding_all rfl) :
    wpAny (model prog w) A (subscriptTail value slice (.ref D) (.int k u)) Q E s := by
  subst e0 e1 e2 e3 hk
  have hl := N.isList hm
  have hc : z = 0 ∨ z = 1 ∨ z = 2 ∨ z = 3 := by omega
  rcases hc with rfl | rfl | rfl | rfl
  · exact item_listR hl (by decide) (by decide) rfl (h 97 u0 (by decide)) hs
  · exact item_listR hl (by decide) (by decide) rfl (h 90 u1 (by decide)) hs
  · exact item_listR hl (by decide) (by decide) rfl (h 32 u2 (by decide)) hs
  · exact item_listR hl (by decide) (by decide) rfl (h 255 u3 (by decide)) hs
def letters8 : List Nat := [98, 111, 100, 104, 120, 99, 115, 116]
theorem letters_at {z : Nat} (h : z < 8) : ∃ k, letters8[z]? = some k ∧ Letter k := by
  have hc : z = 0 ∨ z = 1 ∨ z = 2 ∨ z = 3 ∨ z = 4 ∨ z = 5 ∨ z = 6 ∨ z = 7 := by omega
  unfold Letter
  rcases hc with rfl | rfl | rfl | rfl | rfl | rfl | rfl | rfl
  · exact ⟨98, rfl, by decide⟩
  · exact ⟨111, rfl, by decide⟩
  · exact ⟨100, rfl, by decide⟩
  · exact ⟨104, rfl, by decide⟩
  · exact ⟨120, rfl, by decide⟩
  · exact ⟨99, rfl, by decide⟩
  · exact ⟨115, rfl, by decide⟩
  · exact ⟨116, rfl, by decide⟩
theorem item_letter {value slice : Expr} {x : Str} {t u : Tok} {k : Int} {z : Nat} (hx : x = S letters8) (hk : k = (z : Int)) (hz : z < 8)
    (h : ∀ c t' tk, Letter c → Q (.str (S [c]) t') { s with toks := tk })
    (hs : subscripted slice false (.str x t) (.int k u) = operate [.str x t, .int k u] (getItem (.str x t) (.int k u)) := by with_unfolding_all rfl)
    (ht : ∀ r, letTemporaryGo value (.str x t) r = pure () := by intro _; with_unfolding_all rfl) :
    wpAny (model prog w) A (subscriptTail value slice (.str x t) (.int k u)) Q E s := by
  obtain ⟨c, hc, hl⟩ := letters_at hz
  exact str_item hx hk hc (by decide) (fun t' tk => h c t' tk hl) hs ht
theorem ne_same {x y : Str} {t u : Tok} (e : x = y) (h : Q (.bool false) s) : wpAny (model prog w) A (compareOp .NotEq (.str x t) (.str y u)) Q E s :=
  PyProof.Rows.ne_str (by subst e; rw [show (x != x) = false by simp [bne]]; exact h)
theorem eq_same {x y : Str} {t u : Tok} (e : x = y) (h : Q (.bool true) s) : wpAny (model prog w) A (compareOp .Eq (.str x t) (.str y u)) Q E s :=
  PyProof.Rows.eq_str (by subst e; rw [show (x == x) = true by simp]; exact h)
end
theorem letters_S : Str.ofString "bodhxcst" = S letters8 := by decide +kernel
theorem s_a : Str.ofString "a" = S [97] := by decide +kernel
theorem s_sp : Str.ofString " " = S [32] := by decide +kernel
theorem s_y : Str.ofString "ÿ" = S [255] := by decide +kernel
theorem s_h : Str.ofString "h" = S [104] := by decide +kernel
theorem s_d : Str.ofString "d" = S [100] := by decide +kernel
theorem s_m1 : Str.ofString "-1" = S [45, 49] := by decide +kernel
theorem last_Z : oneVecL 104 2 2 1 false (-1) = [90] := by decide +kernel
theorem last_m1 : oneVecL 100 3 7 0 true 0 = [45, 49] := by decide +kernel

-- nolocal
theorem draw_useX {w : World} {news : List (Addr × Obj)} {g : Obj → List (Addr × Obj)} {J X : Addr} {a b q c cx : Nat} {t1 t2 t3 : Tok} {xs : List Value} {ns : List Int} {x : Int}
    {p : Program} {loose : List Str} {mean : ExcName → Option Value} {mg mb : Str → Option Value} {dp un : Nat} {gd : Option (List Code)} {cn : Str} {cs : Scope} {fa : Addr} {ccd : Value} {cl : List (Str × Addr)} {outer : List Env} {A₀ : Around} {base h₀ : Heap} {L : Addr} {m : Str → Option Value} {s : Shared} {Q E : Value → Shared → Prop}
    (B : Below A₀ base outer h₀) (F : Fr h₀ L s.heap m) (KX : (hd.heap_1 w.params).In h₀) (N : News h₀ L s.heap news) (T : Top p loose mean mg mb h₀) (hk : cs.kind = .function) (hdp : dp + 2 < recursionLimit) (hu : un + 8 * 2 < cLine)
    (hx : x = (q : Int)) (U : UpdF J (jarO a b X t1 t2 c) news g) (hX : (X, listOf xs.toArray cx) ∈ news) (hne : X ≠ J) (hI : IntsAre xs ns) (h0 : 0 < ns.length) (h40 : ns.length ≤ 40) (hb : b < 1000) (hq : Cnt q)
    (ret : ∀ (z a' b' : Nat) (u u1 u2 : Tok) (c' : Nat) h' tk', z < q → b' ≤ b + 1 → Fr h₀ L h' m → News h₀ L h' (g (jarO a' b' X u1 u2 c')) → Q (.int (z : Int) u) { s with heap := h', toks := tk' }) :
    wpAny (model PySem.Challenge.rw_on0103_01.row.prog w) (ktrTop dp un gd cn cs L fa ccd cl outer) (call (.ref 182) [.ref J, .int x t3]) Q E s := by
  subst hx
  exact draw_use B F KX N T hk hdp hu U hX hne hI h0 h40 hb hq ret
theorem small_of {n x : Nat} (hn : n ≤ 40) (h : x < 2 ^ n) : Small x := ⟨Nat.lt_of_lt_of_le h (two40 hn)⟩
theorem vec_use {w : World} {news : List (Addr × Obj)} {g : Obj → List (Addr × Obj)} {J X : Addr} {a b c cx : Nat} {t1 t2 : Tok} {xs : List Value} {ns : List Int}
    {p : Program} {loose : List Str} {mean : ExcName → Option Value} {mg mb : Str → Option Value} {dp un : Nat} {gd : Option (List Code)} {cn : Str} {cs : Scope} {fa : Addr} {ccd : Value} {cl : List (Str × Addr)} {outer : List Env} {A₀ : Around} {base h₀ : Heap} {L : Addr} {m : Str → Option Value} {s : Shared} {Q E : Value → Shared → Prop}
    (B : Below A₀ base outer h₀) (F : Fr h₀ L s.heap m) (KX : (hd.heap_1 w.params).In h₀) (N : News h₀ L s.heap news) (T : Top p loose mean mg mb h₀) (hk : cs.kind = .function) (hdp : dp + 3 < recursionLimit) (hu : un + 8 * 3 < cLine)
    (U : UpdF J (jarO a b X t1 t2 c) news g) (hX : (X, listOf xs.toArray cx) ∈ news) (hne : X ≠ J) (hI : IntsAre xs ns) (h0 : 0 < ns.length) (h40 : ns.length ≤ 40) (hb : b < 990)
    (ret : ∀ V (n x y : Nat) (v1 v2 v3 : Tok) (cv a' b' : Nat) (u1 u2 : Tok) (c' : Nat) h' tk', 0 < n → n ≤ 40 → Small x → x < 2 ^ n → Small y → b' ≤ b + 4 → Fr h₀ L h' m → News h₀ L h' ((V, vecO n x y v1 v2 v3 cv) :: g (jarO a' b' X u1 u2 c')) → (∀ p ∈ g (jarO a' b' X u1 u2 c'), p.1 < V) → Q (.ref V) { s with heap := h', toks := tk' }) :
    wpAny (model PySem.Challenge.rw_on0103_01.row.prog w) (ktrTop dp un gd cn cs L fa ccd cl outer) (call (.ref 189) [.ref J]) Q E s := by
  obtain ⟨pre, post, rfl, hg, h1, h2⟩ := U.split
  have hr : ∀ p ∈ pre ++ post, p.1 ≠ J := fun q hq => by
    rcases List.mem_append.mp hq with hq | hq
    · exact h1 q hq
    · exact h2 q hq
  have hX' : (X, listOf xs.toArray cx) ∈ pre ++ post := by
    rcases List.mem_append.mp hX with hq | hq
    · exact List.mem_append_left _ hq
    · rcases List.mem_cons.mp hq with e | hq
      · exact absurd (congrArg Prod.fst e) hne
      · exact List.mem_append_right _ hq
  have sub : ∀ o', ∀ q ∈ pre ++ (J, o') :: post, q ∈ (J, o') :: (pre ++ post) := fun o' q hq => by
    rcases List.mem_append.mp hq with hq | hq
    · exact List.mem_cons_of_mem _ (List.mem_append_left _ hq)
    · rcases List.mem_cons.mp hq with rfl | hq
      · exact List.mem_cons_self ..
      · exact List.mem_cons_of_mem _ (List.mem_append_right _ hq)
  have sup : ∀ q ∈ (J, jarO a b X t1 t2 c) :: (pre ++ post), q ∈ pre ++ (J, jarO a b X t1 t2 c) :: post := fun q hq => by
    rcases List.mem_cons.mp hq with rfl | hq
    · exact List.mem_append_right _ (List.mem_cons_self ..)
    · rcases List.mem_append.mp hq with hq | hq
      · exact List.mem_append_left _ hq
      · exact List.mem_append_right _ (List.mem_cons_of_mem _ hq)
  refine law_vector_c hX' hI h0 h40 hb hr p loose mean mg mb dp un gd cn cs fa ccd cl outer A₀ base h₀ L m s Q E B F KX (fun q hq => N q (sup q hq)) T hk hdp hu fun V h' tk' v o' F' N' lt hp => ?_
  obtain ⟨n, x, y, v1, v2, v3, cv, a', b', u1, u2, c', rfl, rfl, hb', hn0, hn, hx, hy⟩ := hp
  refine ret V n x y v1 v2 v3 cv a' b' u1 u2 c' h' tk' hn0 hn (small_of hn hx) hx (small_of hn hy) hb' F' (fun q hq => ?_) fun q hq => ?_
  · rcases List.mem_cons.mp hq with rfl | hq
    · exact N' _ (List.mem_cons_self ..)
    · rw [hg] at hq
      exact N' q (List.mem_cons_of_mem _ (sub _ q hq))
  · rw [hg] at hq
    exact lt q (sub _ q hq)
theorem one_arg_vec_x {w : World} {news : List (Addr × Obj)} {D R : Addr} {n a b : Nat} {t1 t2 t3 t4 t5 : Tok} {c c2 k : Nat} {sg : Bool} {wd : Int} {x : Str} {out : List Nat} (hx : x = S [k]) (hR : (R, argO D sg c2) ∈ news) (hD : (D, vecO n a b t1 t2 t3 c) ∈ news) (h0 : 0 < n) (hn : n ≤ 40) (ha : Small a) (hb : Small b) (hk : Letter k) (h1 : -1 ≤ wd) (h2 : wd ≤ 100) (ho : oneVecL k n a b sg wd = out) :
    Ct0 w 175 9 news [.str x t4, .int wd t5, .ref R] (fun r => ∃ u, r = .str (S out) u) := by
  subst hx ho
  exact one_arg_vec_c hR hD h0 hn ha hb hk h1 h2
theorem int8 : (8 : Int) = ((8 : Nat) : Int) := rfl
theorem int62 : (62 : Int) = ((62 : Nat) : Int) := rfl
theorem int5 : (5 : Int) = ((5 : Nat) : Int) := rfl
theorem cnt8 : Cnt 8 := cnt_lit (by decide)
theorem cnt62 : Cnt 62 := cnt_lit (by decide)
theorem cnt5 : Cnt 5 := cnt_lit (by decide)
theorem cnt2 : Cnt 2 := cnt_lit (by decide)
theorem jar_zero {J X : Addr} {t1 t2 : Tok} {c : Nat} {news : List (Addr × Obj)} {g : Obj → List (Addr × Obj)} (h : UpdF J (jarO 0 0 X t1 t2 c) news g) : UpdF J (jarO 0 0 X t1 t2 c) news g := h
theorem small1 : Small 1 := ⟨by decide⟩
theorem small2 : Small 2 := ⟨by decide⟩
theorem small7 : Small 7 := ⟨by decide⟩
theorem letter_h : Letter 104 := .inr (.inr (.inr (.inl rfl)))
theorem letter_d : Letter 100 := .inr (.inr (.inl rfl))

local macro_rules | `(tactic| walk_at "subscriptTail") => `(tactic| (k_here; (with_reducible show wpAny _ _ (subscriptTail (PySem.Expr.BinOp _ _ _ _) (PySem.Expr.Slice _ _ none _) (Value.ref _) (Value.ref _)) _ _ _); k_dflt (refine kba_turn (value' := PySem.Expr.Name (PySem.Str.ofString "_") ⟨0, 0, 0, 0⟩) (fun _ => rfl) ?_); (k_dflt (refine' kmk_slice_ints ?F ?N ?l ?p ?q ?i ?m ?c ?_ ?s ?t ?z; (case F => k_asm); (case N => k_asm); (case l => kmk_list); (case p => kmk_part); (case q => kmk_part); (case i => l_ints); (case m => kmk_nums); (case c => kmk_len); (case s => with_unfolding_all rfl); (case t => kmk_pure); (case z => kmk_size)); intro D' ws' h' F' N' l1 hI' hC' hL'; (try k_lt l1); (try k_sweep))))
local macro_rules | `(tactic| walk_at "compareOp NotEq str str") => `(tactic| k_extra "compareOp NotEq str str")
local macro_rules | `(tactic| walk_at "InvEndN") => `(tactic| k_extra "InvEndN")
local macro_rules | `(tactic| walk_at "CompSrc") => `(tactic| k_extra "CompSrc")
local macro_rules | `(tactic| walk_at "subscriptTail") => `(tactic| (k_here; (with_reducible show wpAny _ _ (subscriptTail (PySem.Expr.List _ _) _ (Value.ref _) (Value.int _ _)) _ _ _); k_extra "four"))
local macro_rules | `(tactic| walk_at "SignEnd") => `(tactic| k_extra "SignEnd")
set_option maxRecDepth 100000 in
set_option maxHeartbeats 16000000 in
theorem law_holds : PySem.Challenge.rw_on0103_01.Holds := by
  k_with_none
  w_on
  o_law
  apply hole1
  case k =>
    intro p1
    clear p1
    o_head (kHook hd.heap_1 (2 :: 3 :: 15 :: 17 :: 18 :: 20 :: 21 :: 22 :: 24 :: 25 :: 27 :: 28 :: 29 :: 31 :: 32 :: 34 :: 35 :: 36 :: 38 :: 39 :: 41 :: 42 :: 43 :: 45 :: 46 :: 48 :: 49 :: 50 :: 52 :: 53 :: 55 :: 56 :: 57 :: 59 :: 60 :: 62 :: 63 :: 64 :: 66 :: 67 :: 69 :: 70 :: 71 :: 73 :: 74 :: 76 :: 77 :: 78 :: 80 :: 81 :: 83 :: 84 :: 85 :: 87 :: 88 :: 90 :: 91 :: 92 :: 94 :: 95 :: 97 :: 98 :: 99 :: 101 :: 102 :: 104 :: 105 :: 106 :: 108 :: 109 :: 111 :: 112 :: 113 :: 115 :: 116 :: 118 :: 119 :: 120 :: 122 :: 123 :: 125 :: 126 :: 127 :: 129 :: 130 :: 132 :: 133 :: 134 :: 136 :: 137 :: 139 :: 140 :: 141 :: 143 :: 144 :: 146 :: 147 :: 148 :: 150 :: 151 :: 153 :: 154 :: 155 :: 157 :: 158 :: 160 :: 161 :: 162 :: 164 :: 165 :: 167 :: 168 :: 169 :: 171 :: 172 :: 174 :: 175 :: 176 :: 178 :: 179 :: 181 :: 182 :: 183 :: 185 :: 186 :: 188 :: 189 :: 190 :: 192 :: 193 :: 195 :: 196 :: 197 :: 199 :: 200 :: 202 :: 203 :: 204 :: 206 :: 207 :: 209 :: 210 :: 211 :: 213 :: 214 :: 216 :: 217 :: 218 :: 220 :: 221 :: 223 :: 224 :: 225 :: 227 :: 228 :: 230 :: 231 :: 232 :: 234 :: 235 :: 237 :: 238 :: 239 :: 241 :: 242 :: 244 :: 245 :: 246 :: 249 :: 250 :: []) (fun _ => by kernel_rfl))
    w_witness2
    k_go0
    (all_goals try k_fold)
    k_with "mem" => first | (with_reducible assumption) | exact List.Mem.head _ | (refine List.mem_cons_of_mem _ ?_; k_extra "mem")
    k_with "facts" => exact True.intro
    k_with "mine call" => ((with_reducible show wpAny _ _ (call (Value.ref 175) [_, _, Value.ref _]) _ _ _); k_dflt (refine' Ct0.use (one_arg_vec_x s_h ?hR ?hD ?h0 ?hn ?ha ?hb ?hk ?h1 ?h2 last_Z) ?u1 ?u2 ?u3 ?u4 ?u5 ?uK ?ud ?uu ?_; (case u1 => k_asm); (case u2 => k_asm); (case u3 => k_asm); (case u4 => k_asm); (case u5 => k_asm); (case uK => first | exact rfl | assumption); (case ud => ktr_room); (case uu => ktr_units); (case hR => k_extra "mem"); (case hD => k_extra "mem"); (case h0 => decide); (case hn => decide); (case ha => exact small2); (case hb => exact small1); (case hk => exact letter_h); (case h1 => decide); (case h2 => decide); intro r9 h9 tk9 F9 N9 ho9; (first | (obtain ⟨t91, t92, t93, c9, e9⟩ := ho9; subst e9) | (obtain ⟨t9, e9⟩ := ho9; subst e9) | subst ho9 | skip); (try dsimp only); (try k_sweep); (try k_fold)))
    k_with "mine call" => ((with_reducible show wpAny _ _ (call (Value.ref 175) [_, _, Value.ref _]) _ _ _); k_dflt (refine' Ct0.use (one_arg_vec_x s_d ?hR ?hD ?h0 ?hn ?ha ?hb ?hk ?h1 ?h2 last_m1) ?u1 ?u2 ?u3 ?u4 ?u5 ?uK ?ud ?uu ?_; (case u1 => k_asm); (case u2 => k_asm); (case u3 => k_asm); (case u4 => k_asm); (case u5 => k_asm); (case uK => first | exact rfl | assumption); (case ud => ktr_room); (case uu => ktr_units); (case hR => k_extra "mem"); (case hD => k_extra "mem"); (case h0 => decide); (case hn => decide); (case ha => exact small7); (case hb => exact small0); (case hk => exact letter_d); (case h1 => decide); (case h2 => decide); intro r9 h9 tk9 F9 N9 ho9; (first | (obtain ⟨t91, t92, t93, c9, e9⟩ := ho9; subst e9) | (obtain ⟨t9, e9⟩ := ho9; subst e9) | subst ho9 | skip); (try dsimp only); (try k_sweep); (try k_fold)))
    k_with "mine call" => ((with_reducible show wpAny _ _ (call (Value.ref 175) [_, _, Value.ref _]) _ _ _); k_dflt (refine' Ct0.use (one_arg_vec_c ?hR ?hD ?h0 ?hn ?ha ?hb ?hk ?h1 ?h2) ?u1 ?u2 ?u3 ?u4 ?u5 ?uK ?ud ?uu ?_; (case u1 => k_asm); (case u2 => k_asm); (case u3 => k_asm); (case u4 => k_asm); (case u5 => k_asm); (case uK => first | exact rfl | assumption); (case ud => ktr_room); (case uu => ktr_units); (case hR => k_extra "mem"); (case hD => k_extra "mem"); (case h0 => assumption); (case hn => assumption); (case ha => assumption); (case hb => assumption); (case hk => assumption); (case h1 => omega); (case h2 => omega); intro r9 h9 tk9 F9 N9 ho9; (first | (obtain ⟨t91, t92, t93, c9, e9⟩ := ho9; subst e9) | (obtain ⟨t9, e9⟩ := ho9; subst e9) | subst ho9 | skip); (try dsimp only); (try k_sweep); (try k_fold)))
    k_with "mine call" => ((with_reducible show wpAny _ _ (call (Value.ref 245) [_, _, Value.ref _]) _ _ _); k_dflt (refine' Ct0.use (due_vec_all ?hR ?hD ?h0 ?hn ?ha ?ha2 ?hk ?h1 ?h2) ?u1 ?u2 ?u3 ?u4 ?u5 ?uK ?ud ?uu ?_; (case u1 => k_asm); (case u2 => k_asm); (case u3 => k_asm); (case u4 => k_asm); (case u5 => k_asm); (case uK => first | exact rfl | assumption); (case ud => ktr_room); (case uu => ktr_units); (case hR => k_extra "mem"); (case hD => k_extra "mem"); (case h0 => assumption); (case hn => assumption); (case ha => assumption); (case ha2 => assumption); (case hk => assumption); (case h1 => omega); (case h2 => omega); intro r9 h9 tk9 F9 N9 ho9; (first | (obtain ⟨t91, t92, t93, c9, e9⟩ := ho9; subst e9) | (obtain ⟨t9, e9⟩ := ho9; subst e9) | subst ho9 | skip); (try dsimp only); (try k_sweep); (try k_fold)))
    k_with "mine call" => ((with_reducible show wpAny _ _ (call (Value.ref 175) [_, _, Value.str _ _]) _ _ _); k_dflt (refine' Ct0.use (one_arg_text_c ?hO ?hk ?h1 ?h2) ?u1 ?u2 ?u3 ?u4 ?u5 ?uK ?ud ?uu ?_; (case u1 => k_asm); (case u2 => k_asm); (case u3 => k_asm); (case u4 => k_asm); (case u5 => k_asm); (case uK => first | exact rfl | assumption); (case ud => ktr_room); (case uu => ktr_units); (case hO => assumption); (case hk => assumption); (case h1 => omega); (case h2 => omega); intro r9 h9 tk9 F9 N9 ho9; (first | (obtain ⟨t91, t92, t93, c9, e9⟩ := ho9; subst e9) | (obtain ⟨t9, e9⟩ := ho9; subst e9) | subst ho9 | skip); (try dsimp only); (try k_sweep); (try k_fold)))
    k_with "mine call" => ((with_reducible show wpAny _ _ (call (Value.ref 245) [_, _, Value.str _ _]) _ _ _); k_dflt (refine' Ct0.use (due_text_all ?hO ?hk ?h1 ?h2) ?u1 ?u2 ?u3 ?u4 ?u5 ?uK ?ud ?uu ?_; (case u1 => k_asm); (case u2 => k_asm); (case u3 => k_asm); (case u4 => k_asm); (case u5 => k_asm); (case uK => first | exact rfl | assumption); (case ud => ktr_room); (case uu => ktr_units); (case hO => assumption); (case hk => assumption); (case h1 => omega); (case h2 => omega); intro r9 h9 tk9 F9 N9 ho9; (first | (obtain ⟨t91, t92, t93, c9, e9⟩ := ho9; subst e9) | (obtain ⟨t9, e9⟩ := ho9; subst e9) | subst ho9 | skip); (try dsimp only); (try k_sweep); (try k_fold)))
    k_with "mine call" => ((with_reducible show wpAny _ _ (call (Value.ref 175) [_, _, Value.none]) _ _ _); k_dflt (refine' Ct0.use (one_arg_none_c) ?u1 ?u2 ?u3 ?u4 ?u5 ?uK ?ud ?uu ?_; (case u1 => k_asm); (case u2 => k_asm); (case u3 => k_asm); (case u4 => k_asm); (case u5 => k_asm); (case uK => first | exact rfl | assumption); (case ud => ktr_room); (case uu => ktr_units);  intro r9 h9 tk9 F9 N9 ho9; (first | (obtain ⟨t91, t92, t93, c9, e9⟩ := ho9; subst e9) | (obtain ⟨t9, e9⟩ := ho9; subst e9) | subst ho9 | skip); (try dsimp only); (try k_sweep); (try k_fold)))
    k_with "mine call" => ((with_reducible show wpAny _ _ (call (Value.ref 245) [_, _, Value.none]) _ _ _); k_dflt (refine' Ct0.use (due_none_c) ?u1 ?u2 ?u3 ?u4 ?u5 ?uK ?ud ?uu ?_; (case u1 => k_asm); (case u2 => k_asm); (case u3 => k_asm); (case u4 => k_asm); (case u5 => k_asm); (case uK => first | exact rfl | assumption); (case ud => ktr_room); (case uu => ktr_units);  intro r9 h9 tk9 F9 N9 ho9; (first | (obtain ⟨t91, t92, t93, c9, e9⟩ := ho9; subst e9) | (obtain ⟨t9, e9⟩ := ho9; subst e9) | subst ho9 | skip); (try dsimp only); (try k_sweep); (try k_fold)))
    k_with "mine call" => ((with_reducible show wpAny _ _ (call (Value.ref 189) _) _ _ _); k_dflt (refine' vec_use ?u1 ?u2 ?u3 ?u4 ?u5 ?uK ?ud ?uu ?uU ?m1 ?m2 ?m3 ?m4 ?m5 ?m6 ?_; (case u1 => k_asm); (case u2 => k_asm); (case u3 => k_asm); (case u4 => k_asm); (case u5 => k_asm); (case uK => first | exact rfl | assumption); (case ud => ktr_room); (case uu => ktr_units); (case uU => k_updF); (case m1 => k_extra "mem"); (case m2 => k_ne); (case m3 => assumption); (case m4 => exact take_pos _); (case m5 => exact take_le _); (case m6 => omega); (intro V9 n9 x9 y9 v91 v92 v93 cv9 a9 b9 u91 u92 c9 h9 tk9 hn09 hn9 hx9 hx29 hy9 hb9 F9 N9 lt9); (try dsimp only at N9 lt9 ⊢); (try k_lt lt9); (try k_sweep); (try k_fold)))
    k_with "mine call" => ((with_reducible show wpAny _ _ (call (Value.ref 182) _) _ _ _); k_dflt (refine' draw_useX ?u1 ?u2 ?u3 ?u4 ?u5 ?uK ?ud ?uu ?ux ?uU ?m1 ?m2 ?m3 ?m4 ?m5 ?m6 ?m7 ?_; (case u1 => k_asm); (case u2 => k_asm); (case u3 => k_asm); (case u4 => k_asm); (case u5 => k_asm); (case uK => first | exact rfl | assumption); (case ud => ktr_room); (case uu => ktr_units); (case ux => first | with_reducible exact int4 | with_reducible exact int8 | with_reducible exact int62 | with_reducible exact int5 | with_reducible exact lit2); (case uU => k_updF); (case m1 => k_extra "mem"); (case m2 => k_ne); (case m3 => assumption); (case m4 => exact take_pos _); (case m5 => exact take_le _); (case m6 => first | decide | omega); (case m7 => first | exact cnt4 | exact cnt8 | exact cnt62 | exact cnt5 | exact cnt2); (intro z9 a9 b9 u9 v9 w9 c9 h9 tk9 hz9 hb9 F9 N9); (try dsimp only at N9 ⊢); (try k_sweep); (try k_fold)))
    k_with "lit item" => (k_dflt (refine' item_letter letters_S ?hk ?hz ?_; (case hk => with_reducible rfl); (case hz => assumption)); intro c9 t9 tk9 hc9)
    k_with "compareOp NotEq str str" => k_dflt (refine ne_same rfl ?_)
    k_with "InvEndN" => ((rename News _ _ _ _ => nE'); (k_dflt (refine' jar_end ?jF nE' ?jn ?jo ?ja ?jb ?jr; (case jF => assumption); (case jn => first | kst_in | kst_inAny); (case jo => first | (intro p hp; kst_mem) | kst_anyIn); (case ja => rfl); (case jb => omega); (case jr => (intro z h1 h3; (simp only [List.contains_cons, List.contains_nil, Bool.or_false, Bool.or_eq_false_iff, beq_eq_false_iff_ne, ne_eq] at h3); (simp [h1, h3]; done))))))
    k_with "CompSrc" => k_dflt ((refine LCg.CompSrc.range (by rfl) (by k_asm) (by k_asm) (by assumption) (by exact small_one (by omega) (by omega) (by omega) (by omega)) (by exact rangeSize_nat _ _) (by rw [PySem.sizeLine_eq]; omega) ?_); intro g9; (refine' law_comp ?jU ?jS ?jn (fun v9 I9 oI9 C9 oC9 D9 m29 ys9 h9 tk9 E9 a9 b9 c9 t91 t92 hb9 hC9 hx9 F9 N9 off39 ne9 mk9 => ?_) (fun ys9 l9 a9 b9 c9 t91 t92 hO9 hS9 hb9 => ?_); (case jU => k_updF); (case jS => exact fun _ => True.intro); (case jn => omega)); (all_goals (try dsimp only at F9 N9 off39 ⊢)); (all_goals (try (have oJ9 := off39.1; clear off39))); (all_goals (try dsimp only)))
    k_with "four" => (k_dflt (refine' item_four ?jN ?jm s_a s_Z s_sp s_y ?jk ?jz ?_; (case jN => k_asm); (case jm => k_extra "mem"); (case jk => with_reducible rfl); (case jz => assumption)); (intro ch9 t9 hch9))
    k_with "SignEnd" => ((rename News _ _ _ _ => nE'); (k_dflt (refine' sign_end ?jF nE' ?jn ?jc ?jb; (case jF => assumption); (case jn => first | kst_in | kst_inAny); (case jc => assumption); (case jb => omega))))
    k_with "call builtin:str.join" => (k_dflt (refine' join_K ?jN ?jm ?jS ?jy ?jl ?_; (case jN => k_asm); (case jm => k_extra "mem"); (case jS => assumption); (case jy => exact rfl); (case jl => (have := (‹Oct _›).short; omega))); (intro t9 tk9))
    k_with "pyIter ref" => k_dflt ((refine' law_range [Str.ofString "letter", Str.ofString "places", Str.ofString "sort", Str.ofString "arg"] ?hL ?hh ?hr ?hs ?hn ?h4 ?F ?N ?U ?hb (fun a9 b9 c9 t91 t92 i9 k9 t9 u9 h9 tk9 own9 hi9 hb9 mk9 off9 F9 N9 => ?_) (fun a9 b9 c9 t91 t92 u9 h9 tk9 mk9 F9 N9 => ?_); (case F => k_asm); (case hL => exact rfl); (case hh => rfl); (case hr => assumption); (case hs => exact small_one (by omega) (by omega) (by omega) (by omega)); (case hn => exact rangeSize_nat _ _); (case h4 => omega); (case N => k_asm); (case U => k_updF); (case hb => omega)); (all_goals (try dsimp only at F9 N9 ⊢)); (all_goals (try simp only [List.cons_append, List.nil_append] at N9)); (all_goals (try simp only [List.map_cons, List.map_nil] at off9)); (all_goals (try k_fold)))
    w_strict k_steps
  case hl => exact top_ok

end Mine
theorem PySem.Challenge.cw_on0103_01_holds : PySem.Challenge.rw_on0103_01.Holds :=
  Mine.law_holds

