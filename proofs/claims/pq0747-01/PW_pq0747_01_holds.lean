import PyProof.Rows.All
import Wide.All
import OpenK.AllK
import Wide.FinOn
import Lean
import PySem.Challenge.RW_pq0747_01
open PySem PySem.W PyProof.Rows
set_option Elab.async false
set_option linter.all false
set_option genSizeOfSpec false
set_option genInjectivity false
set_option maxRecDepth 100000
-- part FHead
namespace Mine
set_option maxHeartbeats 8000000 in
open_top hd for PySem.Challenge.rw_pq0747_01
end Mine
-- part FDefs
namespace Mine
noncomputable section
/-- a form of numbers: bits of exponent, bits of fraction -/
structure PForm where
  eb : Nat
  fb : Nat
namespace PForm
def two (F : PForm) : Int := 2 ^ F.eb
def hid (F : PForm) : Int := 2 ^ F.fb
def top (F : PForm) : Int := 2 ^ F.eb - 1
def bias (F : PForm) : Int := 2 ^ (F.eb - 1) - 1
def least (F : PForm) : Int := 1 - F.bias - F.fb
structure Ok (F : PForm) : Prop where
  e1 : 2 ≤ F.eb
  e2 : F.eb ≤ 5
  f1 : 1 ≤ F.fb
  f2 : F.fb ≤ 6
end PForm
def sg (F : PForm) (x : Int) : Int := (x / F.hid) / F.two
def ex (F : PForm) (x : Int) : Int := (x / F.hid) % F.two
def fr (F : PForm) (x : Int) : Int := x % F.hid
def join (F : PForm) (s e f : Int) : Int := (s * F.two + e) * F.hid + f
def infi (F : PForm) (s : Int) : Int := join F s F.top 0
def nan (F : PForm) : Int := join F 0 F.top (F.hid / 2)
def zero (F : PForm) (s : Int) : Int := join F s 0 0
abbrev isNan (F : PForm) (x : Int) : Prop := ex F x = F.top ∧ fr F x ≠ 0
abbrev isInf (F : PForm) (x : Int) : Prop := ex F x = F.top ∧ fr F x = 0
abbrev isZero (F : PForm) (x : Int) : Prop := x % (F.hid * F.two) = 0
def mant (F : PForm) (x : Int) : Int := if ex F x = 0 then fr F x else F.hid + fr F x
def expo (F : PForm) (x : Int) : Int := if ex F x = 0 then F.least else F.least + ex F x - 1
def bitc (m : Int) : Int := if m ≤ 0 then 0 else (m.toNat.log2 : Int) + 1
def rsh (m k : Int) : Int :=
  if k ≤ 0 then m * 2 ^ (0 - k).toNat
  else if 2 ^ (k - 1).toNat < m % 2 ^ k.toNat ∨ (m % 2 ^ k.toNat = 2 ^ (k - 1).toNat ∧ m / 2 ^ k.toNat % 2 = 1) then m / 2 ^ k.toNat + 1
  else m / 2 ^ k.toNat
abbrev place (F : PForm) (m e : Int) : Int := if F.least > e + bitc m - F.fb - 1 then F.least else e + bitc m - F.fb - 1
abbrev kept (F : PForm) (m e : Int) : Int := rsh m (place F m e - e)
def pack (F : PForm) (s m e : Int) : Int :=
  if m = 0 then zero F s
  else if kept F m e = F.hid * 2 then
    (if F.top ≤ place F m e + 1 - F.least + 1 then infi F s else join F s (place F m e + 1 - F.least + 1) 0)
  else if kept F m e < F.hid then join F s 0 (kept F m e)
  else if F.top ≤ place F m e - F.least + 1 then infi F s else join F s (place F m e - F.least + 1) (kept F m e - F.hid)
def neg (F : PForm) (a : Int) : Int := if isNan F a then nan F else join F (1 - sg F a) (ex F a) (fr F a)
def absr (F : PForm) (a : Int) : Int := if isNan F a then nan F else join F 0 (ex F a) (fr F a)
def signed (s m : Int) : Int := if s = 1 then 0 - m else m
def both (s t : Int) : Int := if s = 1 ∧ t = 1 then 1 else 0
def differ (s t : Int) : Int := if s = t then 0 else 1
abbrev low (F : PForm) (a b : Int) : Int := if expo F b < expo F a then expo F b else expo F a
def total (F : PForm) (a b : Int) : Int :=
  signed (sg F a) (mant F a * 2 ^ (expo F a - low F a b).toNat) + signed (sg F b) (mant F b * 2 ^ (expo F b - low F a b).toNat)
def addFin (F : PForm) (a b : Int) : Int :=
  if total F a b = 0 then zero F (both (sg F a) (sg F b))
  else if total F a b < 0 then pack F 1 (0 - total F a b) (low F a b)
  else pack F 0 (total F a b) (low F a b)
def add (F : PForm) (a b : Int) : Int :=
  if isNan F a ∨ isNan F b then nan F
  else if isInf F a then (if isInf F b ∧ sg F a ≠ sg F b then nan F else a)
  else if isInf F b then b
  else addFin F a b
def sub (F : PForm) (a b : Int) : Int := add F a (neg F b)
def mul (F : PForm) (a b : Int) : Int :=
  if isNan F a ∨ isNan F b then nan F
  else if isInf F a ∨ isInf F b then (if isZero F a ∨ isZero F b then nan F else infi F (differ (sg F a) (sg F b)))
  else pack F (differ (sg F a) (sg F b)) (mant F a * mant F b) (expo F a + expo F b)
def ord (F : PForm) (a : Int) : Int := signed (sg F a) (ex F a * F.hid + fr F a)
def cmpOf (F : PForm) (a b : Int) : Int := if ord F a = ord F b then 0 else if ord F a < ord F b then -1 else 1
def cmp (F : PForm) (a b : Int) : Option Int := if isNan F a ∨ isNan F b then none else some (cmpOf F a b)
def fromInt (F : PForm) (n : Int) : Int := if n < 0 then pack F 1 (0 - n) 0 else pack F 0 n 0
def floorOf (F : PForm) (a : Int) : Int :=
  if 0 ≤ expo F a then signed (sg F a) (mant F a) * 2 ^ (expo F a).toNat else signed (sg F a) (mant F a) / 2 ^ (0 - expo F a).toNat
def floor (F : PForm) (a : Int) : Option Int := if isInf F a ∨ isNan F a then none else some (floorOf F a)
def lawAt (ns : List Int) (i : Int) : Int := ns.getD i.toNat (11 * i + 5)
end
end Mine
-- part FBase
namespace Mine
/-- the form, as the ledger bears it -/
inductive FormIn (news : List (Addr × Obj)) (Fo : Addr) (F : PForm) : Prop where
  | mk (dx : Addr) (k1 k2 k3 k4 k5 k6 : Int) (t1 t2 t3 t4 t5 t6 u1 u2 u3 u4 u5 u6 : Tok) (h1 : (Fo, instObj 31 dx) ∈ news)
    (h2 : (dx, dictOf [⟨k1, .str (Str.ofString "exponent_bits") t1, .int F.eb u1⟩, ⟨k2, .str (Str.ofString "fraction_bits") t2, .int F.fb u2⟩, ⟨k3, .str (Str.ofString "bias") t3, .int F.bias u3⟩, ⟨k4, .str (Str.ofString "top") t4, .int F.top u4⟩, ⟨k5, .str (Str.ofString "hidden") t5, .int F.hid u5⟩, ⟨k6, .str (Str.ofString "least") t6, .int F.least u6⟩] 6) ∈ news) : FormIn news Fo F
theorem FormIn.sub {news news' : List (Addr × Obj)} {Fo : Addr} {F : PForm} (h : FormIn news Fo F) (hs : ∀ p ∈ news, p ∈ news') : FormIn news' Fo F := by
  obtain ⟨dx, k1, k2, k3, k4, k5, k6, t1, t2, t3, t4, t5, t6, u1, u2, u3, u4, u5, u6, h1, h2⟩ := h
  exact ⟨dx, k1, k2, k3, k4, k5, k6, t1, t2, t3, t4, t5, t6, u1, u2, u3, u4, u5, u6, hs _ h1, hs _ h2⟩
theorem FormIn.cons {news : List (Addr × Obj)} {p : Addr × Obj} {Fo : Addr} {F : PForm} (h : FormIn news Fo F) : FormIn (p :: news) Fo F := h.sub fun _ => .tail _

/-- a call that hands back a value, and keeps the ledger -/
def SpecV (w : World) (mean : ExcName → Option Value) (mg mb : Str → Option Value) (news : List (Addr × Obj)) (f : Addr) (vs : List Value) (sz : Nat) (R : Tok → Value) : Prop :=
  ∀ (dp un : Nat) (gd : Option (List Code)) (cn : Str) (cs : Scope) (a : Addr) (ccd : Value) (cl : List (Str × Addr)) (outer : List Env) (A₀ : Around) (base h₀ : Heap) (L : Addr) (m : Str → Option Value) (s : Shared) (Q E : Value → Shared → Prop),
    Below A₀ base outer h₀ → Fr h₀ L s.heap m → (Mine.hd.heap_39 w.params).In h₀ → News h₀ L s.heap news → Top Mine.hd.view_39 (looseW Mine.hd.view_39 [Str.ofString "pack"]) mean mg mb h₀ → cs.kind = .function →
    dp + sz < recursionLimit → un + 8 * sz < cLine →
    (∀ (t : Tok) (h' : Heap) (tk' : Nat), Fr h₀ L h' m → News h₀ L h' news → Q (R t) { s with heap := h', toks := tk' }) →
    wpAny (model PySem.Challenge.rw_pq0747_01.row.prog w) (ktrTop dp un gd cn cs L a ccd cl outer) (call (.ref f) vs) Q E s
/-- a call that hands back a tuple of three ints -/
def SpecT (w : World) (mean : ExcName → Option Value) (mg mb : Str → Option Value) (news : List (Addr × Obj)) (f : Addr) (vs : List Value) (sz : Nat) (x y z : Int) : Prop :=
  ∀ (dp un : Nat) (gd : Option (List Code)) (cn : Str) (cs : Scope) (a : Addr) (ccd : Value) (cl : List (Str × Addr)) (outer : List Env) (A₀ : Around) (base h₀ : Heap) (L : Addr) (m : Str → Option Value) (s : Shared) (Q E : Value → Shared → Prop),
    Below A₀ base outer h₀ → Fr h₀ L s.heap m → (Mine.hd.heap_39 w.params).In h₀ → News h₀ L s.heap news → Top Mine.hd.view_39 (looseW Mine.hd.view_39 [Str.ofString "pack"]) mean mg mb h₀ → cs.kind = .function →
    dp + sz < recursionLimit → un + 8 * sz < cLine →
    (∀ (D : Addr) (t1 t2 t3 : Tok) (c : Nat) (h' : Heap) (tk' : Nat), Fr h₀ L h' m → News h₀ L h' ((D, ({ cls := .type "tuple", data := .seq #[.int x t1, .int y t2, .int z t3] c } : Obj)) :: news) → Q (.ref D) { s with heap := h', toks := tk' }) →
    wpAny (model PySem.Challenge.rw_pq0747_01.row.prog w) (ktrTop dp un gd cn cs L a ccd cl outer) (call (.ref f) vs) Q E s
theorem news_drop {h₀ h : Heap} {L : Addr} {news news' : List (Addr × Obj)} (N : News h₀ L h news') (hs : ∀ p ∈ news, p ∈ news') : News h₀ L h news := fun p hp => N p (hs p hp)

-- facts of a form
theorem PForm.hid_eq (F : PForm) (h : F.Ok) : F.hid = 2 ∨ F.hid = 4 ∨ F.hid = 8 ∨ F.hid = 16 ∨ F.hid = 32 ∨ F.hid = 64 := by
  have h3 := h.f1
  have h4 := h.f2
  unfold PForm.hid
  have : F.fb = 1 ∨ F.fb = 2 ∨ F.fb = 3 ∨ F.fb = 4 ∨ F.fb = 5 ∨ F.fb = 6 := by lia
  rcases this with e | e | e | e | e | e <;> rw [e] <;> decide
theorem PForm.two_eq (F : PForm) (h : F.Ok) : (F.eb = 2 ∧ F.two = 4 ∧ F.bias = 1) ∨ (F.eb = 3 ∧ F.two = 8 ∧ F.bias = 3) ∨ (F.eb = 4 ∧ F.two = 16 ∧ F.bias = 7) ∨ (F.eb = 5 ∧ F.two = 32 ∧ F.bias = 15) := by
  have h3 := h.e1
  have h4 := h.e2
  unfold PForm.two PForm.bias
  have : F.eb = 2 ∨ F.eb = 3 ∨ F.eb = 4 ∨ F.eb = 5 := by lia
  rcases this with e | e | e | e <;> rw [e] <;> decide
structure Facts (F : PForm) : Prop where
  e : (2 : Int) ≤ F.eb ∧ (F.eb : Int) ≤ 5
  f : (1 : Int) ≤ F.fb ∧ (F.fb : Int) ≤ 6
  h : 2 ≤ F.hid ∧ F.hid ≤ 64
  t : 4 ≤ F.two ∧ F.two ≤ 32
  p : F.top = F.two - 1
  l : -20 ≤ F.least ∧ F.least ≤ -1
theorem facts (F : PForm) (h : F.Ok) : Facts F := by
  have h1 := F.hid_eq h
  have h2 := F.two_eq h
  have ⟨a, b, c, d⟩ := h
  refine ⟨by lia, by lia, by lia, by lia, rfl, ?_⟩
  unfold PForm.least
  lia
end Mine
-- part FUse
namespace Mine
section
variable {w : World} {mean : ExcName → Option Value} {mg mb : Str → Option Value} {news : List (Addr × Obj)} {f : Addr} {vs : List Value} {sz : Nat}
  {dp un : Nat} {gd : Option (List Code)} {cn : Str} {cs : Scope} {a : Addr} {ccd : Value} {cl : List (Str × Addr)} {outer : List Env} {A₀ : Around} {base h₀ : Heap} {L : Addr} {m : Str → Option Value} {s : Shared} {Q E : Value → Shared → Prop}
theorem SpecV.use {R : Tok → Value} (B : Below A₀ base outer h₀) (F : Fr h₀ L s.heap m) (X : (Mine.hd.heap_39 w.params).In h₀) (N : News h₀ L s.heap news) (T : Top Mine.hd.view_39 (looseW Mine.hd.view_39 [Str.ofString "pack"]) mean mg mb h₀) (hk : cs.kind = .function)
    (C : SpecV w mean mg mb news f vs sz R) (hd : dp + sz < recursionLimit) (hu : un + 8 * sz < cLine)
    (ret : ∀ (t : Tok) (h' : Heap) (tk' : Nat), Fr h₀ L h' m → News h₀ L h' news → Q (R t) { s with heap := h', toks := tk' }) :
    wpAny (model PySem.Challenge.rw_pq0747_01.row.prog w) (ktrTop dp un gd cn cs L a ccd cl outer) (PySem.call (.ref f) vs) Q E s :=
  C _ _ _ _ _ _ _ _ _ _ _ _ _ _ _ _ _ B F X N T hk hd hu ret
theorem SpecT.use {x y z : Int} (B : Below A₀ base outer h₀) (F : Fr h₀ L s.heap m) (X : (Mine.hd.heap_39 w.params).In h₀) (N : News h₀ L s.heap news) (T : Top Mine.hd.view_39 (looseW Mine.hd.view_39 [Str.ofString "pack"]) mean mg mb h₀) (hk : cs.kind = .function)
    (C : SpecT w mean mg mb news f vs sz x y z) (hd : dp + sz < recursionLimit) (hu : un + 8 * sz < cLine)
    (ret : ∀ (D : Addr) (t1 t2 t3 : Tok) (c : Nat) (h' : Heap) (tk' : Nat), Fr h₀ L h' m → News h₀ L h' ((D, ({ cls := .type "tuple", data := .seq #[.int x t1, .int y t2, .int z t3] c } : Obj)) :: news) → Q (.ref D) { s with heap := h', toks := tk' }) :
    wpAny (model PySem.Challenge.rw_pq0747_01.row.prog w) (ktrTop dp un gd cn cs L a ccd cl outer) (PySem.call (.ref f) vs) Q E s :=
  C _ _ _ _ _ _ _ _ _ _ _ _ _ _ _ _ _ B F X N T hk hd hu ret
theorem SpecT.fin {x y z x' y' z' : Int} {D : Addr} {t1 t2 t3 : Tok} {c tk' : Nat} {h' : Heap} {news' : List (Addr × Obj)}
    (ret : ∀ (D : Addr) (t1 t2 t3 : Tok) (c : Nat) (h' : Heap) (tk' : Nat), Fr h₀ L h' m → News h₀ L h' ((D, ({ cls := .type "tuple", data := .seq #[.int x t1, .int y t2, .int z t3] c } : Obj)) :: news) → Q (.ref D) { s with heap := h', toks := tk' })
    (F : Fr h₀ L h' m) (N : News h₀ L h' ((D, ({ cls := .type "tuple", data := .seq #[.int x' t1, .int y' t2, .int z' t3] c } : Obj)) :: news')) (hs : ∀ p ∈ news, p ∈ news') (e1 : x' = x) (e2 : y' = y) (e3 : z' = z) : Q (.ref D) { s with heap := h', toks := tk' } := by
  subst e1; subst e2; subst e3
  refine ret D t1 t2 t3 c h' tk' F fun p hp => ?_
  rcases List.mem_cons.mp hp with rfl | hp
  · exact N _ (.head _)
  · exact N _ (.tail _ (hs _ hp))
theorem SpecV.finI {x x' : Int} {t : Tok} {tk' : Nat} {h' : Heap} {news' : List (Addr × Obj)}
    (ret : ∀ (t : Tok) (h' : Heap) (tk' : Nat), Fr h₀ L h' m → News h₀ L h' news → Q (.int x t) { s with heap := h', toks := tk' })
    (F : Fr h₀ L h' m) (N : News h₀ L h' news') (hs : ∀ p ∈ news, p ∈ news') (e : x' = x) : Q (.int x' t) { s with heap := h', toks := tk' } := by
  subst e
  exact ret t h' tk' F fun p hp => N _ (hs _ hp)
theorem SpecV.finB {x x' : Bool} {tk' : Nat} {h' : Heap} {news' : List (Addr × Obj)}
    (ret : ∀ (t : Tok) (h' : Heap) (tk' : Nat), Fr h₀ L h' m → News h₀ L h' news → Q (.bool x) { s with heap := h', toks := tk' })
    (F : Fr h₀ L h' m) (N : News h₀ L h' news') (hs : ∀ p ∈ news, p ∈ news') (e : x' = x) : Q (.bool x') { s with heap := h', toks := tk' } := by
  subst e
  exact ret 0 h' tk' F fun p hp => N _ (hs _ hp)
theorem SpecV.finN {tk' : Nat} {h' : Heap} {news' : List (Addr × Obj)}
    (ret : ∀ (t : Tok) (h' : Heap) (tk' : Nat), Fr h₀ L h' m → News h₀ L h' news → Q .none { s with heap := h', toks := tk' })
    (F : Fr h₀ L h' m) (N : News h₀ L h' news') (hs : ∀ p ∈ news, p ∈ news') : Q .none { s with heap := h', toks := tk' } := ret 0 h' tk' F fun p hp => N _ (hs _ hp)
end
end Mine
-- part FM1
namespace Mine
noncomputable section
section
variable {F : PForm}
theorem mpow_pos (k : Nat) : (0 : Int) < 2 ^ k := by
  induction k with
  | zero => decide
  | succ k ih => rw [Int.pow_succ]; lia
theorem mpow_mono {a b : Nat} (h : a ≤ b) : (2 : Int) ^ a ≤ 2 ^ b := by
  induction h with
  | refl => exact Int.le_refl _
  | step _ ih => rw [Int.pow_succ]; have := mpow_pos a; lia
theorem mpow_add (a b : Nat) : (2 : Int) ^ (a + b) = 2 ^ a * 2 ^ b := Int.pow_add _ _ _
theorem mpow_split {a b c : Nat} (h : c = a + b) : (2 : Int) ^ c = 2 ^ a * 2 ^ b := by rw [h, Int.pow_add]
theorem mmul_le {a b c : Int} (h : a ≤ b) (hc : 0 ≤ c) : a * c ≤ b * c := Int.mul_le_mul_of_nonneg_right h hc
theorem mmul_lt {a b c : Int} (h : a < b) (hc : 0 < c) : a * c < b * c := Int.mul_lt_mul_of_pos_right h hc

-- the fields
theorem jn_fr (ok : F.Ok) {s e f : Int} (hf : 0 ≤ f ∧ f < F.hid) : fr F (join F s e f) = f := by
  have h1 := (facts F ok).h
  unfold fr join
  rw [Int.add_comm, Int.add_mul_emod_self_right, Int.emod_eq_of_lt hf.1 hf.2]
theorem jn_up (ok : F.Ok) {s e f : Int} (hf : 0 ≤ f ∧ f < F.hid) : join F s e f / F.hid = s * F.two + e := by
  have h1 := (facts F ok).h
  unfold join
  rw [Int.add_comm, Int.add_mul_ediv_right _ _ (by lia), Int.ediv_eq_zero_of_lt hf.1 hf.2, Int.zero_add]
theorem jn_ex (ok : F.Ok) {s e f : Int} (he : 0 ≤ e ∧ e < F.two) (hf : 0 ≤ f ∧ f < F.hid) : ex F (join F s e f) = e := by
  unfold ex
  rw [jn_up ok hf, Int.add_comm, Int.add_mul_emod_self_right, Int.emod_eq_of_lt he.1 he.2]
theorem jn_sg (ok : F.Ok) {s e f : Int} (he : 0 ≤ e ∧ e < F.two) (hf : 0 ≤ f ∧ f < F.hid) : sg F (join F s e f) = s := by
  have h2 := (facts F ok).t
  unfold sg
  rw [jn_up ok hf, Int.add_comm, Int.add_mul_ediv_right _ _ (by lia), Int.ediv_eq_zero_of_lt he.1 he.2, Int.zero_add]
theorem jn_eta (x : Int) : join F (sg F x) (ex F x) (fr F x) = x := by
  unfold join sg ex fr
  have h1 := Int.mul_ediv_add_emod (x / F.hid) F.two
  have h2 := Int.mul_ediv_add_emod x F.hid
  rw [Int.mul_comm] at h1 h2
  rw [h1, h2]
theorem exb (ok : F.Ok) (x : Int) : 0 ≤ ex F x ∧ ex F x ≤ F.top := by
  have := (facts F ok).t
  have := (facts F ok).p
  have := Int.emod_nonneg (x / F.hid) (show F.two ≠ 0 by lia)
  have := Int.emod_lt_of_pos (x / F.hid) (show 0 < F.two by lia)
  unfold ex
  lia
theorem frb (ok : F.Ok) (x : Int) : 0 ≤ fr F x ∧ fr F x < F.hid := by
  have := (facts F ok).h
  exact ⟨Int.emod_nonneg _ (by lia), Int.emod_lt_of_pos _ (by lia)⟩
/-- a number built of fields -/
structure Made (F : PForm) (r s e f : Int) : Prop where
  s : sg F r = s
  e : ex F r = e
  f : fr F r = f
theorem made (ok : F.Ok) {s e f : Int} (he : 0 ≤ e ∧ e ≤ F.top) (hf : 0 ≤ f ∧ f < F.hid) : Made F (join F s e f) s e f := by
  have := (facts F ok).p
  exact ⟨jn_sg ok (by lia) hf, jn_ex ok (by lia) hf, jn_fr ok hf⟩
theorem same {x y : Int} (h1 : sg F x = sg F y) (h2 : ex F x = ex F y) (h3 : fr F x = fr F y) : x = y := by
  rw [← jn_eta (F := F) x, ← jn_eta (F := F) y, h1, h2, h3]

-- rounding
theorem rsh_mono {m n k : Int} (h0 : 0 ≤ m) (h : m ≤ n) : rsh m k ≤ rsh n k := by
  unfold rsh
  by_cases hk : k ≤ 0
  · rw [if_pos hk, if_pos hk]
    exact mmul_le h (Int.le_of_lt (mpow_pos _))
  · rw [if_neg hk, if_neg hk]
    have hp := mpow_pos k.toNat
    have h1 := Int.mul_ediv_add_emod m (2 ^ k.toNat)
    have h2 := Int.mul_ediv_add_emod n (2 ^ k.toNat)
    have h3 := Int.emod_nonneg m (show (2 : Int) ^ k.toNat ≠ 0 by lia)
    have h4 := Int.emod_nonneg n (show (2 : Int) ^ k.toNat ≠ 0 by lia)
    have h5 := Int.ediv_le_ediv hp h
    clear h0
    rcases Int.lt_or_eq_of_le h5 with h6 | h6
    · split <;> split <;> lia
    · rw [h6] at h1 ⊢
      split <;> split <;> lia
theorem rsh_low {m k b : Int} (h : b * 2 ^ k.toNat ≤ m) (hk : 0 ≤ k) : b ≤ rsh m k := by
  unfold rsh
  have h1 := (Int.le_ediv_iff_mul_le (mpow_pos k.toNat)).mpr h
  split
  · have : k = 0 := by lia
    subst this
    simpa using h
  · split <;> lia
theorem rsh_up {m k b : Int} (h : m < b * 2 ^ k.toNat) (hk : 0 ≤ k) : rsh m k ≤ b := by
  unfold rsh
  have h1 := (Int.ediv_lt_iff_lt_mul (mpow_pos k.toNat)).mpr h
  split
  · have : k = 0 := by lia
    subst this
    simp at h ⊢
    lia
  · split <;> lia
theorem rsh_neg {m k : Int} (hk : k ≤ 0) : rsh m k = m * 2 ^ (0 - k).toNat := by
  unfold rsh; rw [if_pos hk]
theorem rsh_nonneg {m k : Int} (h : 0 ≤ m) : 0 ≤ rsh m k := by
  have h2 := Int.ediv_nonneg h (Int.le_of_lt (mpow_pos k.toNat))
  have h3 := Int.mul_nonneg h (Int.le_of_lt (mpow_pos (0 - k).toNat))
  unfold rsh
  split
  · exact h3
  · split <;> lia
theorem rsh_dbl (m k : Int) : rsh (2 * m) (k + 1) = rsh m k := by
  by_cases hk : k ≤ -1
  · rw [rsh_neg (by lia), rsh_neg (by lia), show (0 - k).toNat = (0 - (k + 1)).toNat + 1 by lia, Int.pow_succ]
    grind
  · by_cases hk0 : k = 0
    · subst hk0
      unfold rsh
      have e1 : 2 * m / 2 ^ ((0 : Int) + 1).toNat = m := by
        show 2 * m / 2 = m
        lia
      have e2 : 2 * m % 2 ^ ((0 : Int) + 1).toNat = 0 := by
        show 2 * m % 2 = 0
        lia
      rw [e1, e2, if_neg (show ¬ (0 : Int) + 1 ≤ 0 by decide), if_neg (show ¬ ((2 : Int) ^ ((0 : Int) + 1 - 1).toNat < 0 ∨ (0 : Int) = 2 ^ ((0 : Int) + 1 - 1).toNat ∧ m % 2 = 1) by
        rw [show (2 : Int) ^ ((0 : Int) + 1 - 1).toNat = 1 from rfl]; lia), if_pos (by decide)]
      show m = m * 1
      lia
    · unfold rsh
      rw [if_neg (show ¬ k + 1 ≤ 0 by lia), if_neg (show ¬ k ≤ 0 by lia), show (k + 1).toNat = k.toNat + 1 by lia, Int.pow_succ, Int.mul_comm (2 ^ k.toNat) 2]
      have e1 : 2 * m / (2 * 2 ^ k.toNat) = m / 2 ^ k.toNat := Int.mul_ediv_mul_of_pos _ _ (by decide)
      have e2 : 2 * m % (2 * 2 ^ k.toNat) = 2 * (m % 2 ^ k.toNat) := Int.mul_emod_mul_of_pos _ _ (by decide)
      have e3 : (2 : Int) ^ (k + 1 - 1).toNat = 2 * 2 ^ (k - 1).toNat := by
        rw [show (k + 1 - 1).toNat = (k - 1).toNat + 1 by lia, Int.pow_succ]; lia
      rw [e1, e2, e3]
      split <;> split <;> lia

-- the count of bits
theorem bitc_pos {m : Int} (h : 0 < m) : 1 ≤ bitc m := by
  unfold bitc; rw [if_neg (by lia)]; lia
theorem bitc_lt {m : Int} (h : 0 < m) : m < 2 ^ (bitc m).toNat := by
  unfold bitc
  rw [if_neg (by lia), show ((m.toNat.log2 : Int) + 1).toNat = m.toNat.log2 + 1 by lia]
  have h1 := Nat.lt_log2_self (n := m.toNat)
  have h2 : ((2 ^ (m.toNat.log2 + 1) : Nat) : Int) = (2 : Int) ^ (m.toNat.log2 + 1) := by simp
  lia
theorem bitc_le {m : Int} (h : 0 < m) : 2 ^ (bitc m - 1).toNat ≤ m := by
  unfold bitc
  rw [if_neg (by lia), show ((m.toNat.log2 : Int) + 1 - 1).toNat = m.toNat.log2 by lia]
  have h1 := Nat.log2_self_le (n := m.toNat) (by lia)
  have h2 : ((2 ^ m.toNat.log2 : Nat) : Int) = (2 : Int) ^ m.toNat.log2 := by simp
  lia
theorem bitc_uniq {m : Int} {c : Nat} (h1 : 2 ^ c ≤ m) (h2 : m < 2 ^ (c + 1)) : bitc m = c + 1 := by
  have hm : 0 < m := by have := mpow_pos c; lia
  have a := bitc_lt hm
  have b := bitc_le hm
  have p := bitc_pos hm
  rcases Int.lt_trichotomy (bitc m) (c + 1) with h | h | h
  · have := mpow_mono (show (bitc m).toNat ≤ c by lia); lia
  · exact h
  · have := mpow_mono (show c + 1 ≤ (bitc m - 1).toNat by lia); lia
theorem bitc_mono {m n : Int} (h : 0 < m) (hn : m ≤ n) : bitc m ≤ bitc n := by
  have a := bitc_lt (show 0 < n by lia)
  have b := bitc_le h
  have p := bitc_pos h
  have p := bitc_pos (show 0 < n by lia)
  rcases Int.lt_or_le (bitc n) (bitc m) with h | h
  · have := mpow_mono (show (bitc n).toNat ≤ (bitc m - 1).toNat by lia); lia
  · exact h
theorem bitc_dbl {m : Int} (h : 0 < m) : bitc (2 * m) = bitc m + 1 := by
  have a := bitc_lt h
  have b := bitc_le h
  have p := bitc_pos h
  have e : bitc m = ((bitc m - 1).toNat : Int) + 1 := by lia
  have := bitc_uniq (m := 2 * m) (c := (bitc m - 1).toNat + 1) (by rw [Int.pow_succ]; lia) (by rw [Int.pow_succ, show (bitc m - 1).toNat + 1 = (bitc m).toNat by lia]; lia)
  lia

/-- the code that a number is rounded to -/
def code (F : PForm) (m e : Int) : Int := (place F m e - F.least) * F.hid + kept F m e
def P (F : PForm) (m e : Int) : Int := if m = 0 then 0 else if F.top * F.hid ≤ code F m e then F.top * F.hid else code F m e
theorem hid_pow2 (F : PForm) : F.hid = 2 ^ F.fb := rfl
theorem kept_up (ok : F.Ok) {m e : Int} (h : 0 < m) : kept F m e ≤ F.hid * 2 := by
  have a := bitc_lt h
  have p := bitc_pos h
  have hpl : e + bitc m - F.fb - 1 ≤ place F m e := by unfold place; split <;> lia
  unfold kept
  generalize place F m e = q at hpl ⊢
  rw [hid_pow2]
  by_cases hk : q - e ≤ 0
  · rw [rsh_neg hk]
    have h1 : (2 : Int) ^ (F.fb + 1) = 2 ^ (bitc m).toNat * 2 ^ (F.fb + 1 - (bitc m).toNat) := mpow_split (by lia)
    have h2 := mpow_mono (show (0 - (q - e)).toNat ≤ F.fb + 1 - (bitc m).toNat by lia)
    rw [← Int.pow_succ, h1]
    exact Int.mul_le_mul (by lia) h2 (Int.le_of_lt (mpow_pos _)) (Int.le_of_lt (mpow_pos _))
  · refine rsh_up ?_ (by lia)
    rw [← Int.pow_succ, ← mpow_add]
    have h2 := mpow_mono (show (bitc m).toNat ≤ F.fb.succ + (q - e).toNat by lia)
    lia
theorem kept_low (ok : F.Ok) {m e : Int} (h : 0 < m) (hp : place F m e = e + bitc m - F.fb - 1) : F.hid ≤ kept F m e := by
  have a := bitc_le h
  have p := bitc_pos h
  unfold kept
  rw [hp, hid_pow2]
  generalize hk : e + bitc m - F.fb - 1 - e = k
  by_cases hk0 : k ≤ 0
  · rw [rsh_neg hk0, mpow_split (show F.fb = (bitc m - 1).toNat + (0 - k).toNat by lia)]
    exact mmul_le a (Int.le_of_lt (mpow_pos _))
  · refine rsh_low ?_ (by lia)
    rw [← mpow_add, show F.fb + k.toNat = (bitc m - 1).toNat by lia]
    exact a
theorem kept_nonneg {m e : Int} (h : 0 ≤ m) : 0 ≤ kept F m e := rsh_nonneg h
theorem place_least (m e : Int) : F.least ≤ place F m e := by unfold place; split <;> lia
theorem place_alt (m e : Int) : place F m e = F.least ∨ place F m e = e + bitc m - F.fb - 1 := by unfold place; split <;> lia
theorem place_mono {m n e : Int} (h : 0 < m) (hn : m ≤ n) : place F m e ≤ place F n e := by
  have := bitc_mono h hn
  unfold place
  split <;> split <;> lia
theorem code_mono (ok : F.Ok) {m n e : Int} (h : 0 < m) (hn : m ≤ n) : code F m e ≤ code F n e := by
  have hh := (facts F ok).h
  unfold code
  rcases Int.lt_or_eq_of_le (place_mono (F := F) (e := e) h hn) with hp | hp
  · have h1 := kept_up ok (e := e) h
    have h2 : F.hid ≤ kept F n e := by
      refine kept_low ok (by lia) ?_
      have := place_alt (F := F) n e
      have := place_least (F := F) m e
      lia
    have h3 := mmul_le (show place F m e - F.least + 1 ≤ place F n e - F.least by lia) (show 0 ≤ F.hid by lia)
    rw [Int.add_mul] at h3
    lia
  · have h4 : kept F m e ≤ kept F n e := by
      unfold kept
      rw [hp]
      exact rsh_mono (by lia) hn
    rw [hp]
    lia
theorem code_nonneg (ok : F.Ok) {m e : Int} (h : 0 ≤ m) : 0 ≤ code F m e := by
  have hh := (facts F ok).h
  have h1 := kept_nonneg (F := F) (e := e) h
  have h2 := Int.mul_nonneg (show 0 ≤ place F m e - F.least by have := place_least (F := F) m e; lia) (show 0 ≤ F.hid by lia)
  unfold code
  lia
theorem P_bound (ok : F.Ok) {m e : Int} (h : 0 ≤ m) : 0 ≤ P F m e ∧ P F m e ≤ F.top * F.hid := by
  have hh := (facts F ok).h
  have ht := (facts F ok).t
  have hp := (facts F ok).p
  have h1 := code_nonneg (F := F) ok (e := e) h
  have h2 := Int.mul_nonneg (show 0 ≤ F.top by lia) (show 0 ≤ F.hid by lia)
  unfold P
  split
  · lia
  · split <;> lia
theorem P_zero (e : Int) : P F 0 e = 0 := by unfold P; rw [if_pos rfl]
theorem P_mono (ok : F.Ok) {m n e : Int} (h : 0 ≤ m) (hn : m ≤ n) : P F m e ≤ P F n e := by
  have hh := (facts F ok).h
  by_cases hm : m = 0
  · subst hm
    rw [P_zero]
    exact (P_bound ok hn).1
  · have h1 := code_mono ok (e := e) (show 0 < m by lia) hn
    unfold P
    rw [if_neg hm, if_neg (show ¬ n = 0 by lia)]
    split <;> split <;> lia
theorem P_dbl {m e : Int} (h : 0 ≤ m) : P F (2 * m) (e - 1) = P F m e := by
  by_cases hm : m = 0
  · subst hm
    rw [P_zero]
    rfl
  · have h1 := bitc_dbl (show 0 < m by lia)
    have h2 : place F (2 * m) (e - 1) = place F m e := by
      unfold place
      rw [h1]
      split <;> split <;> lia
    have h3 : kept F (2 * m) (e - 1) = kept F m e := by
      unfold kept
      rw [h2, show place F m e - (e - 1) = place F m e - e + 1 by lia, rsh_dbl]
    unfold P code
    rw [h2, h3, if_neg (show ¬ 2 * m = 0 by lia), if_neg hm]
theorem P_pow {m e : Int} (h : 0 ≤ m) (k : Nat) : P F (m * 2 ^ k) (e - k) = P F m e := by
  induction k with
  | zero => simp
  | succ k ih =>
    have := P_dbl (F := F) (e := e - k) (Int.mul_nonneg h (Int.le_of_lt (mpow_pos k)))
    rw [← ih, ← this, Int.pow_succ]
    congr 1
    · grind
    · lia
/-- pack, read -/
theorem pack_read (ok : F.Ok) {s m e : Int} (h : 0 ≤ m) : ∃ E f, pack F s m e = join F s E f ∧ 0 ≤ E ∧ E ≤ F.top ∧ 0 ≤ f ∧ f < F.hid ∧ (E = F.top → f = 0) ∧ E * F.hid + f = P F m e := by
  have hh := (facts F ok).h
  have ht := (facts F ok).t
  have hp := (facts F ok).p
  have hl := place_least (F := F) m e
  have hn := kept_nonneg (F := F) (e := e) h
  by_cases hm : m = 0
  · subst hm
    refine ⟨0, 0, ?_, by lia, by lia, by lia, by lia, by lia, ?_⟩
    · unfold pack; rw [if_pos rfl]; rfl
    · rw [P_zero]; lia
  · have hu := kept_up ok (e := e) (show 0 < m by lia)
    unfold pack P code
    rw [if_neg hm, if_neg hm]
    generalize hq : place F m e - F.least = q
    have e1 : place F m e + 1 - F.least + 1 = q + 2 := by lia
    have e2 : place F m e - F.least + 1 = q + 1 := by lia
    rw [e1]
    try rw [e2]
    generalize hk : kept F m e = k at *
    by_cases h1 : k = F.hid * 2
    · rw [if_pos h1]
      by_cases h2 : F.top ≤ q + 2
      · have h3 := mmul_le h2 (show 0 ≤ F.hid by lia)
        rw [Int.add_mul] at h3
        rw [if_pos h2, if_pos (by lia)]
        exact ⟨F.top, 0, rfl, by lia, by lia, by lia, by lia, by lia, by lia⟩
      · have h3 := mmul_le (show q + 2 + 1 ≤ F.top by lia) (show 0 ≤ F.hid by lia)
        rw [Int.add_mul, Int.add_mul] at h3
        rw [if_neg h2, if_neg (by lia)]
        refine ⟨q + 2, 0, rfl, by lia, by lia, by lia, by lia, by lia, ?_⟩
        rw [Int.add_mul]
        lia
    · rw [if_neg h1]
      by_cases h2 : k < F.hid
      · have hq0 : q = 0 := by
          rcases place_alt (F := F) m e with h | h
          · lia
          · have := kept_low ok (show 0 < m by lia) h
            lia
        subst hq0
        have h3 := mmul_le (show 1 ≤ F.top by lia) (show 0 ≤ F.hid by lia)
        rw [if_pos h2, if_neg (by lia)]
        exact ⟨0, k, rfl, by lia, by lia, by lia, by lia, by lia, rfl⟩
      · rw [if_neg h2]
        by_cases h4 : F.top ≤ q + 1
        · have h3 := mmul_le h4 (show 0 ≤ F.hid by lia)
          rw [Int.add_mul] at h3
          rw [if_pos h4, if_pos (by lia)]
          exact ⟨F.top, 0, rfl, by lia, by lia, by lia, by lia, by lia, by lia⟩
        · have h3 := mmul_le (show q + 1 + 1 ≤ F.top by lia) (show 0 ≤ F.hid by lia)
          rw [Int.add_mul, Int.add_mul] at h3
          rw [if_neg h4, if_neg (by lia)]
          refine ⟨q + 1, k - F.hid, rfl, by lia, by lia, by lia, by lia, by lia, ?_⟩
          rw [Int.add_mul]
          lia
end
end
end Mine
-- part FM2
namespace Mine
noncomputable section
abbrev Sg (F : PForm) (x : Int) : Prop := 0 ≤ sg F x ∧ sg F x ≤ 1
section
variable {F : PForm}
theorem both_comm (s t : Int) : both s t = both t s := by unfold both; split <;> split <;> lia
theorem differ_comm (s t : Int) : differ s t = differ t s := by unfold differ; split <;> split <;> lia
theorem low_comm (a b : Int) : low F a b = low F b a := by unfold low; split <;> split <;> lia
theorem total_comm (a b : Int) : total F a b = total F b a := by unfold total; rw [low_comm a b, Int.add_comm]
theorem addFin_comm (a b : Int) : addFin F a b = addFin F b a := by unfold addFin; rw [total_comm a b, both_comm (sg F a), low_comm a b]
theorem m_add_comm (a b : Int) : add F a b = add F b a := by
  unfold add
  by_cases hn : isNan F a ∨ isNan F b
  · have hn' : isNan F b ∨ isNan F a := hn.symm
    rw [if_pos hn, if_pos hn']
  · have hn' : ¬ (isNan F b ∨ isNan F a) := fun h => hn h.symm
    rw [if_neg hn, if_neg hn']
    by_cases ha : isInf F a <;> by_cases hb : isInf F b
    · rw [if_pos ha, if_pos hb]
      by_cases hs : sg F a = sg F b
      · have h1 : ¬ (isInf F b ∧ sg F a ≠ sg F b) := fun h => h.2 hs
        have h2 : ¬ (isInf F a ∧ sg F b ≠ sg F a) := fun h => h.2 hs.symm
        rw [if_neg h1, if_neg h2]
        exact same hs (ha.1.trans hb.1.symm) (ha.2.trans hb.2.symm)
      · have h1 : isInf F b ∧ sg F a ≠ sg F b := ⟨hb, hs⟩
        have h2 : isInf F a ∧ sg F b ≠ sg F a := ⟨ha, fun h => hs h.symm⟩
        rw [if_pos h1, if_pos h2]
    · have h1 : ¬ (isInf F b ∧ sg F a ≠ sg F b) := fun h => hb h.1
      rw [if_pos ha, if_neg h1, if_neg hb, if_pos ha]
    · have h1 : ¬ (isInf F a ∧ sg F b ≠ sg F a) := fun h => ha h.1
      rw [if_neg ha, if_pos hb, if_pos hb, if_neg h1]
    · rw [if_neg ha, if_neg hb, if_neg hb, if_neg ha, addFin_comm]
theorem m_mul_comm (a b : Int) : mul F a b = mul F b a := by
  unfold mul
  by_cases hn : isNan F a ∨ isNan F b
  · have hn' : isNan F b ∨ isNan F a := hn.symm
    rw [if_pos hn, if_pos hn']
  · have hn' : ¬ (isNan F b ∨ isNan F a) := fun h => hn h.symm
    rw [if_neg hn, if_neg hn']
    by_cases hi : isInf F a ∨ isInf F b
    · have hi' : isInf F b ∨ isInf F a := hi.symm
      rw [if_pos hi, if_pos hi']
      by_cases hz : isZero F a ∨ isZero F b
      · have hz' : isZero F b ∨ isZero F a := hz.symm
        rw [if_pos hz, if_pos hz']
      · have hz' : ¬ (isZero F b ∨ isZero F a) := fun h => hz h.symm
        rw [if_neg hz, if_neg hz', differ_comm]
    · have hi' : ¬ (isInf F b ∨ isInf F a) := fun h => hi h.symm
      rw [if_neg hi, if_neg hi', differ_comm, Int.mul_comm (mant F a), Int.add_comm (expo F a)]
theorem m_sg_range (ok : F.Ok) {x : Int} (h0 : 0 ≤ x) (h1 : x < 2 * F.two * F.hid) : Sg F x := by
  have hh := (facts F ok).h
  have ht := (facts F ok).t
  have a := Int.ediv_nonneg h0 (show 0 ≤ F.hid by lia)
  have b := (Int.ediv_lt_iff_lt_mul (show 0 < F.hid by lia)).mpr h1
  have c := Int.ediv_nonneg a (show 0 ≤ F.two by lia)
  have d := (Int.ediv_lt_iff_lt_mul (show 0 < F.two by lia)).mpr b
  unfold Sg sg
  lia
-- what the fields say
theorem nan_made (ok : F.Ok) : Made F (nan F) 0 F.top (F.hid / 2) := by
  have hh := (facts F ok).h
  have ht := (facts F ok).t
  have hp := (facts F ok).p
  exact made ok (by lia) (by lia)
theorem nan_isNan (ok : F.Ok) : isNan F (nan F) := by
  have hh := (facts F ok).h
  have h := nan_made ok
  exact ⟨h.e, by rw [h.f]; lia⟩
theorem infi_made (ok : F.Ok) (s : Int) : Made F (infi F s) s F.top 0 := by
  have hh := (facts F ok).h
  have ht := (facts F ok).t
  have hp := (facts F ok).p
  exact made ok (by lia) (by lia)
theorem zero_made (ok : F.Ok) (s : Int) : Made F (zero F s) s 0 0 := by
  have hh := (facts F ok).h
  have ht := (facts F ok).t
  have hp := (facts F ok).p
  exact made ok (by lia) (by lia)
theorem neg_made (ok : F.Ok) {x : Int} (h : ¬ isNan F x) : Made F (neg F x) (1 - sg F x) (ex F x) (fr F x) := by
  unfold neg
  rw [if_neg h]
  exact made ok (exb ok x) (frb ok x)
theorem abs_made (ok : F.Ok) {x : Int} (h : ¬ isNan F x) : Made F (absr F x) 0 (ex F x) (fr F x) := by
  unfold absr
  rw [if_neg h]
  exact made ok (exb ok x) (frb ok x)
theorem nan_of {x y : Int} (e : ex F x = ex F y) (f : fr F x = fr F y) (h : ¬ isNan F y) : ¬ isNan F x := fun a => h ⟨e ▸ a.1, f ▸ a.2⟩
theorem inf_of {x y : Int} (e : ex F x = ex F y) (f : fr F x = fr F y) (h : ¬ isInf F y) : ¬ isInf F x := fun a => h ⟨e ▸ a.1, f ▸ a.2⟩
theorem inf_of' {x y : Int} (e : ex F x = ex F y) (f : fr F x = fr F y) (h : isInf F y) : isInf F x := ⟨e.trans h.1, f.trans h.2⟩
theorem neg_num (ok : F.Ok) {x : Int} (h : ¬ isNan F x) : ¬ isNan F (neg F x) := nan_of (neg_made ok h).e (neg_made ok h).f h
theorem m_negneg (ok : F.Ok) {x : Int} (h : ¬ isNan F x) : neg F (neg F x) = x := by
  have a := neg_made ok h
  have b := neg_made ok (neg_num ok h)
  refine same ?_ (b.e.trans a.e) (b.f.trans a.f)
  rw [b.s, a.s]
  lia
theorem m_sg_neg (ok : F.Ok) {x : Int} (h : Sg F x) : Sg F (neg F x) := by
  by_cases hn : isNan F x
  · unfold neg
    rw [if_pos hn]
    have := (nan_made ok).s
    unfold Sg
    lia
  · have := (neg_made ok hn).s
    unfold Sg at *
    lia
theorem m_cmp_self (x : Int) : cmpOf F x x = 0 := by unfold cmpOf; rw [if_pos rfl]
theorem m_abs_num (ok : F.Ok) {x : Int} (h : ¬ isNan F x) : ¬ isNan F (absr F x) := nan_of (abs_made ok h).e (abs_made ok h).f h
theorem m_sg_abs (ok : F.Ok) (x : Int) : Sg F (absr F x) := by
  by_cases hn : isNan F x
  · unfold absr
    rw [if_pos hn]
    have := (nan_made ok).s
    unfold Sg
    lia
  · have := (abs_made ok hn).s
    unfold Sg
    lia
/-- the size's code -/
def oc (F : PForm) (x : Int) : Int := ex F x * F.hid + fr F x
theorem oc_nonneg (ok : F.Ok) (x : Int) : 0 ≤ oc F x := by
  have hh := (facts F ok).h
  have := Int.mul_nonneg (exb ok x).1 (show 0 ≤ F.hid by lia)
  have := (frb ok x).1
  unfold oc
  lia
theorem oc_le (ok : F.Ok) {x : Int} (h : ¬ isNan F x) : oc F x ≤ F.top * F.hid := by
  have hh := (facts F ok).h
  have h1 := exb ok x
  have h2 := frb ok x
  unfold oc
  by_cases e : ex F x = F.top
  · have : fr F x = 0 := by
      by_cases f : fr F x = 0
      · exact f
      · exact absurd ⟨e, f⟩ h
    rw [e]
    lia
  · have h3 := mmul_le (show ex F x + 1 ≤ F.top by lia) (show 0 ≤ F.hid by lia)
    rw [Int.add_mul] at h3
    lia
theorem oc_inf {x : Int} (h : isInf F x) : oc F x = F.top * F.hid := by
  unfold oc
  rw [h.1, h.2]
  lia
theorem inf_oc (ok : F.Ok) {x : Int} (h : ¬ isNan F x) (ho : F.top * F.hid ≤ oc F x) : isInf F x := by
  have hh := (facts F ok).h
  have h1 := exb ok x
  have h2 := frb ok x
  unfold oc at ho
  by_cases e : ex F x = F.top
  · refine ⟨e, ?_⟩
    by_cases f : fr F x = 0
    · exact f
    · exact absurd ⟨e, f⟩ h
  · have h3 := mmul_le (show ex F x + 1 ≤ F.top by lia) (show 0 ≤ F.hid by lia)
    rw [Int.add_mul] at h3
    lia
theorem top_pos (ok : F.Ok) : 0 < F.top * F.hid := by
  have hh := (facts F ok).h
  have ht := (facts F ok).t
  have hp := (facts F ok).p
  exact Int.mul_pos (by lia) (by lia)
theorem zero_oc (ok : F.Ok) (x : Int) : x % (F.hid * F.two) = oc F x := by
  have hh := (facts F ok).h
  have ht := (facts F ok).t
  have hp := (facts F ok).p
  have h1 := exb ok x
  have h2 := frb ok x
  have h3 := mmul_le (show ex F x + 1 ≤ F.two by lia) (show 0 ≤ F.hid by lia)
  rw [Int.add_mul] at h3
  have h4 := oc_nonneg ok x
  have e : x = oc F x + sg F x * (F.hid * F.two) := by
    have := jn_eta (F := F) x
    unfold join at this
    unfold oc
    grind
  rw [e, Int.add_mul_emod_self_right, ← e]
  refine Int.emod_eq_of_lt h4 ?_
  unfold oc
  rw [Int.mul_comm F.hid]
  lia
theorem ord_def (x : Int) : ord F x = signed (sg F x) (oc F x) := rfl
theorem m_cmp_abs (ok : F.Ok) {x : Int} (h : ¬ isNan F x) (hs : Sg F x) : cmpOf F (absr F x) x = 0 ∨ cmpOf F (absr F x) x = 1 := by
  have a := abs_made ok h
  have e : oc F (absr F x) = oc F x := by unfold oc; rw [a.e, a.f]
  have n := oc_nonneg ok x
  unfold cmpOf
  rw [ord_def, ord_def, e, a.s]
  unfold signed
  repeat' split
  all_goals lia
theorem cmp_le {a b : Int} : cmpOf F a b ≤ 0 ↔ ord F a ≤ ord F b := by
  unfold cmpOf
  repeat' split
  all_goals lia
theorem cmp_of_le {a b : Int} (h : ord F a ≤ ord F b) : cmpOf F a b = -1 ∨ cmpOf F a b = 0 := by
  unfold cmpOf
  repeat' split
  all_goals lia
theorem cmp_ne {a b : Int} (h : cmpOf F a b ≠ 0) : ord F a ≠ ord F b := by
  unfold cmpOf at h
  intro e
  rw [if_pos e] at h
  exact h rfl
-- values
def mgn (F : PForm) (x : Int) : Int := mant F x * 2 ^ (expo F x - F.least).toNat
def V (F : PForm) (x : Int) : Int := signed (sg F x) (mgn F x)
theorem signed_mul (s m z : Int) : signed s (m * z) = signed s m * z := by
  unfold signed
  split
  · rw [Int.sub_mul, Int.zero_mul]
  · rfl
theorem mant_nonneg (ok : F.Ok) (x : Int) : 0 ≤ mant F x := by
  have hh := (facts F ok).h
  have h2 := frb ok x
  unfold mant
  split <;> lia
theorem expo_least (ok : F.Ok) (x : Int) : F.least ≤ expo F x := by
  have h2 := exb ok x
  unfold expo
  split <;> lia
theorem mgn_nonneg (ok : F.Ok) (x : Int) : 0 ≤ mgn F x := Int.mul_nonneg (mant_nonneg ok x) (Int.le_of_lt (mpow_pos _))
theorem mgn_zero {x : Int} (e : ex F x = 0) (f : fr F x = 0) : mgn F x = 0 := by
  unfold mgn mant
  rw [if_pos e, f, Int.zero_mul]
theorem mgn_sub {x : Int} (e : ex F x = 0) : mgn F x = fr F x := by
  unfold mgn mant expo
  rw [if_pos e, if_pos e, show (F.least - F.least).toNat = 0 by lia]
  lia
theorem mgn_nor {x : Int} (e : ¬ ex F x = 0) : mgn F x = (F.hid + fr F x) * 2 ^ (ex F x - 1).toNat := by
  unfold mgn mant expo
  rw [if_neg e, if_neg e, show F.least + ex F x - 1 - F.least = ex F x - 1 by lia]
theorem mgn_lt_ex (ok : F.Ok) {x y : Int} (h : ex F x < ex F y) : mgn F x < mgn F y := by
  have hh := (facts F ok).h
  have hx := exb ok x
  have fx := frb ok x
  have fy := frb ok y
  rw [mgn_nor (x := y) (by lia)]
  have hp := mpow_pos (ex F y - 1).toNat
  have h1 : F.hid * 2 ^ (ex F y - 1).toNat ≤ (F.hid + fr F y) * 2 ^ (ex F y - 1).toNat := mmul_le (by lia) (by lia)
  by_cases e : ex F x = 0
  · rw [mgn_sub e]
    have h2 := Int.mul_le_mul_of_nonneg_left (show 1 ≤ (2 : Int) ^ (ex F y - 1).toNat by lia) (show 0 ≤ F.hid by lia)
    lia
  · rw [mgn_nor e]
    have hq := mpow_pos (ex F x - 1).toNat
    have h2 : (F.hid + fr F x) * 2 ^ (ex F x - 1).toNat < (F.hid * 2) * 2 ^ (ex F x - 1).toNat := mmul_lt (by lia) hq
    have h3 := mpow_mono (show (ex F x - 1).toNat + 1 ≤ (ex F y - 1).toNat by lia)
    have h4 := Int.mul_le_mul_of_nonneg_left h3 (show 0 ≤ F.hid by lia)
    rw [Int.pow_succ, Int.mul_comm (2 ^ (ex F x - 1).toNat) 2, ← Int.mul_assoc] at h4
    lia
theorem mgn_lt_fr {x y : Int} (e : ex F x = ex F y) (h : fr F x < fr F y) : mgn F x < mgn F y := by
  by_cases z : ex F x = 0
  · rw [mgn_sub z, mgn_sub (e ▸ z)]
    exact h
  · rw [mgn_nor z, mgn_nor (e ▸ z), e]
    exact mmul_lt (by lia) (mpow_pos _)
theorem mgn_eq {x y : Int} (e : ex F x = ex F y) (h : fr F x = fr F y) : mgn F x = mgn F y := by
  unfold mgn mant expo
  rw [e, h]
theorem oc_cases (ok : F.Ok) {x y : Int} (h : oc F x < oc F y) : ex F x < ex F y ∨ (ex F x = ex F y ∧ fr F x < fr F y) := by
  have hh := (facts F ok).h
  have fx := frb ok x
  have fy := frb ok y
  unfold oc at h
  rcases Int.lt_trichotomy (ex F x) (ex F y) with c | c | c
  · exact .inl c
  · rw [c] at h
    exact .inr ⟨c, by lia⟩
  · have h3 := mmul_le (show ex F y + 1 ≤ ex F x by lia) (show 0 ≤ F.hid by lia)
    rw [Int.add_mul] at h3
    lia
theorem oc_fields (ok : F.Ok) {x y : Int} (h : oc F x = oc F y) : ex F x = ex F y ∧ fr F x = fr F y := by
  have hh := (facts F ok).h
  have fx := frb ok x
  have fy := frb ok y
  unfold oc at h
  rcases Int.lt_trichotomy (ex F x) (ex F y) with c | c | c
  · have h3 := mmul_le (show ex F x + 1 ≤ ex F y by lia) (show 0 ≤ F.hid by lia)
    rw [Int.add_mul] at h3
    lia
  · rw [c] at h
    exact ⟨c, by lia⟩
  · have h3 := mmul_le (show ex F y + 1 ≤ ex F x by lia) (show 0 ≤ F.hid by lia)
    rw [Int.add_mul] at h3
    lia
theorem mgn_lt (ok : F.Ok) {x y : Int} (h : oc F x < oc F y) : mgn F x < mgn F y := by
  rcases oc_cases ok h with c | ⟨c, d⟩
  · exact mgn_lt_ex ok c
  · exact mgn_lt_fr c d
theorem oc_zero (ok : F.Ok) {x : Int} (h : oc F x = 0) : mgn F x = 0 := by
  have hh := (facts F ok).h
  have e := (exb ok x).1
  have f := (frb ok x).1
  unfold oc at h
  rcases Int.lt_or_eq_of_le e with c | c
  · have h3 := mmul_le (show 1 ≤ ex F x by lia) (show 0 ≤ F.hid by lia)
    lia
  · rw [← c] at h
    exact mgn_zero c.symm (by lia)
theorem mgn_pos (ok : F.Ok) {x : Int} (h : 0 < oc F x) : 0 < mgn F x := by
  have z := zero_made ok 0
  have e : oc F (zero F 0) = 0 := by unfold oc; rw [z.e, z.f]; lia
  have := mgn_lt ok (x := zero F 0) (y := x) (by lia)
  have := mgn_nonneg ok (zero F 0)
  lia
theorem V_mono (ok : F.Ok) {x y : Int} (h : ord F x ≤ ord F y) : V F x ≤ V F y := by
  have nx := oc_nonneg ok x
  have ny := oc_nonneg ok y
  have mx := mgn_nonneg ok x
  have my := mgn_nonneg ok y
  have zx := oc_zero ok (x := x)
  have zy := oc_zero ok (x := y)
  rw [ord_def, ord_def] at h
  unfold V
  unfold signed at *
  rcases Int.lt_trichotomy (oc F x) (oc F y) with c | c | c
  · have := mgn_lt ok c
    split at h <;> split at h <;> rename_i p q <;> simp only [p, q, if_true, if_false] <;> lia
  · have := oc_fields ok c
    have := mgn_eq this.1 this.2
    split at h <;> split at h <;> rename_i p q <;> simp only [p, q, if_true, if_false] <;> lia
  · have := mgn_lt ok c
    split at h <;> split at h <;> rename_i p q <;> simp only [p, q, if_true, if_false] <;> lia
theorem V_lt (ok : F.Ok) {x y : Int} (h : ord F x < ord F y) : V F x < V F y := by
  have nx := oc_nonneg ok x
  have ny := oc_nonneg ok y
  have mx := mgn_nonneg ok x
  have my := mgn_nonneg ok y
  have px := mgn_pos ok (x := x)
  rw [ord_def, ord_def] at h
  unfold V
  unfold signed at *
  rcases Int.lt_trichotomy (oc F x) (oc F y) with c | c | c
  · have := mgn_lt ok c
    split at h <;> split at h <;> rename_i p q <;> simp only [p, q, if_true, if_false] <;> lia
  · have := oc_fields ok c
    have := mgn_eq this.1 this.2
    split at h <;> split at h <;> rename_i p q <;> simp only [p, q, if_true, if_false] <;> lia
  · have := mgn_lt ok c
    split at h <;> split at h <;> rename_i p q <;> simp only [p, q, if_true, if_false] <;> lia
theorem V_inj (ok : F.Ok) {x y : Int} (h : V F x = V F y) : ord F x = ord F y := by
  rcases Int.lt_trichotomy (ord F x) (ord F y) with c | c | c
  · have := V_lt ok c; lia
  · exact c
  · have := V_lt ok c; lia
-- rounding, signed
def sP (F : PForm) (X E : Int) : Int := if X < 0 then 0 - P F (0 - X) E else P F X E
theorem sP_zero (E : Int) : sP F 0 E = 0 := by unfold sP; rw [if_neg (by lia), P_zero]
theorem sP_bound (ok : F.Ok) (X E : Int) : 0 - F.top * F.hid ≤ sP F X E ∧ sP F X E ≤ F.top * F.hid := by
  have ht := top_pos ok
  unfold sP
  split
  · have := P_bound ok (e := E) (show 0 ≤ 0 - X by lia); lia
  · have := P_bound ok (e := E) (show 0 ≤ X by lia); lia
theorem sP_mono (ok : F.Ok) {X Y : Int} (E : Int) (h : X ≤ Y) : sP F X E ≤ sP F Y E := by
  unfold sP
  split <;> split
  · have := P_mono ok (e := E) (show 0 ≤ 0 - Y by lia) (show 0 - Y ≤ 0 - X by lia); lia
  · have := P_bound ok (e := E) (show 0 ≤ 0 - X by lia)
    have := P_bound ok (e := E) (show 0 ≤ Y by lia)
    lia
  · lia
  · exact P_mono ok (by lia) h
theorem sP_signed {s m : Int} (E : Int) (hm : 0 ≤ m) : sP F (signed s m) E = signed s (P F m E) := by
  unfold signed
  split
  · unfold sP
    by_cases h : m = 0
    · subst h
      rw [P_zero, if_neg (by lia)]
      exact P_zero _
    · rw [if_pos (by lia), show 0 - (0 - m) = m by lia]
  · unfold sP
    rw [if_neg (by lia)]
structure Packed (F : PForm) (r s o : Int) : Prop where
  s : sg F r = s
  o : oc F r = o
  n : ¬ isNan F r
theorem pack_made (ok : F.Ok) {s m e : Int} (h : 0 ≤ m) : Packed F (pack F s m e) s (P F m e) := by
  obtain ⟨E, f, e1, h1, h2, h3, h4, h5, h6⟩ := pack_read (F := F) (s := s) (e := e) ok h
  have a := made (F := F) (s := s) ok ⟨h1, h2⟩ ⟨h3, h4⟩
  rw [e1]
  refine ⟨a.s, ?_, ?_⟩
  · unfold oc
    rw [a.e, a.f]
    exact h6
  · intro n
    unfold isNan at n
    rw [a.e, a.f] at n
    exact n.2 (h5 n.1)
theorem pack_same (ok : F.Ok) {s m e m' e' : Int} (h : 0 ≤ m) (h' : 0 ≤ m') (hP : P F m e = P F m' e') : pack F s m e = pack F s m' e' := by
  have a := pack_made (F := F) (s := s) (e := e) ok h
  have b := pack_made (F := F) (s := s) (e := e') ok h'
  have c := oc_fields ok (a.o.trans (hP.trans b.o.symm))
  exact same (a.s.trans b.s.symm) c.1 c.2
theorem pack_neg (ok : F.Ok) {s m e : Int} (h : 0 ≤ m) : neg F (pack F s m e) = pack F (1 - s) m e := by
  have a := pack_made (F := F) (s := s) (e := e) ok h
  have b := pack_made (F := F) (s := 1 - s) (e := e) ok h
  have n := neg_made ok a.n
  have c := oc_fields ok (a.o.trans b.o.symm)
  exact same (by rw [n.s, a.s, b.s]) (n.e.trans c.1) (n.f.trans c.2)
theorem ord_packed {r s o : Int} (h : Packed F r s o) : ord F r = signed s o := by rw [ord_def, h.s, h.o]
theorem zero_packed (ok : F.Ok) (s : Int) : Packed F (zero F s) s 0 := by
  have ht := (facts F ok).t
  have hp := (facts F ok).p
  have z := zero_made ok s
  refine ⟨z.s, by unfold oc; rw [z.e, z.f]; lia, ?_⟩
  intro n
  unfold isNan at n
  rw [z.f] at n
  exact n.2 rfl
-- sums
theorem low_least (ok : F.Ok) (a b : Int) : F.least ≤ low F a b ∧ low F a b ≤ expo F a ∧ low F a b ≤ expo F b := by
  have := expo_least ok a
  have := expo_least ok b
  unfold low
  split <;> lia
theorem total_V (ok : F.Ok) (a b : Int) : total F a b * 2 ^ (low F a b - F.least).toNat = V F a + V F b := by
  have h := low_least ok a b
  unfold total V mgn
  generalize low F a b = l at *
  rw [Int.add_mul, ← signed_mul, ← signed_mul, Int.mul_assoc, Int.mul_assoc, ← mpow_add, ← mpow_add,
    show (expo F a - l).toNat + (l - F.least).toNat = (expo F a - F.least).toNat by lia,
    show (expo F b - l).toNat + (l - F.least).toNat = (expo F b - F.least).toNat by lia]
theorem P_least (ok : F.Ok) (a b : Int) {T : Int} (h : 0 ≤ T) : P F (T * 2 ^ (low F a b - F.least).toNat) F.least = P F T (low F a b) := by
  have hl := low_least ok a b
  have := P_pow (F := F) (e := low F a b) h (low F a b - F.least).toNat
  rw [← this]
  congr 1
  lia
theorem addFin_ord (ok : F.Ok) (a b : Int) : ¬ isNan F (addFin F a b) ∧ ord F (addFin F a b) = sP F (V F a + V F b) F.least ∧ (0 ≤ sg F (addFin F a b) ∧ sg F (addFin F a b) ≤ 1) := by
  have hT := total_V ok a b
  have hpw := mpow_pos (low F a b - F.least).toNat
  have hb : 0 ≤ both (sg F a) (sg F b) ∧ both (sg F a) (sg F b) ≤ 1 := by unfold both; split <;> lia
  rw [← hT]
  unfold addFin
  by_cases h0 : total F a b = 0
  · rw [if_pos h0, h0, Int.zero_mul]
    have z := zero_packed ok (both (sg F a) (sg F b))
    refine ⟨z.n, ?_, by rw [z.s]; exact hb⟩
    rw [ord_packed z, sP_zero]
    unfold signed
    split <;> rfl
  · rw [if_neg h0]
    by_cases h1 : total F a b < 0
    · rw [if_pos h1]
      have p := pack_made (F := F) (s := 1) (e := low F a b) ok (show 0 ≤ 0 - total F a b by lia)
      refine ⟨p.n, ?_, by rw [p.s]; lia⟩
      rw [ord_packed p]
      have := Int.mul_neg_of_neg_of_pos h1 hpw
      have e := P_least ok a b (T := 0 - total F a b) (by lia)
      unfold signed sP
      rw [if_pos rfl, if_pos this, ← e, Int.sub_mul, Int.zero_mul]
    · rw [if_neg h1]
      have p := pack_made (F := F) (s := 0) (e := low F a b) ok (show 0 ≤ total F a b by lia)
      refine ⟨p.n, ?_, by rw [p.s]; lia⟩
      rw [ord_packed p]
      have := Int.mul_nonneg (show 0 ≤ total F a b by lia) (Int.le_of_lt hpw)
      have e := P_least ok a b (T := total F a b) (by lia)
      unfold signed sP
      rw [if_neg (by decide), if_neg (by lia), e]
theorem m_sg_add (ok : F.Ok) {a b : Int} (sa : Sg F a) (sb : Sg F b) : Sg F (add F a b) := by
  unfold add
  split
  · have := (nan_made ok).s
    unfold Sg; lia
  · split
    · split
      · have := (nan_made ok).s
        unfold Sg; lia
      · exact sa
    · split
      · exact sb
      · exact (addFin_ord ok a b).2.2
theorem m_sg_sub (ok : F.Ok) {a b : Int} (sa : Sg F a) (sb : Sg F b) : Sg F (sub F a b) := m_sg_add ok sa (m_sg_neg ok sb)
theorem add_num (ok : F.Ok) {a c : Int} (ha : ¬ isNan F a) (hc : ¬ isNan F c) (ic : ¬ isInf F c) : (isInf F a ∧ add F a c = a) ∨ (¬ isInf F a ∧ add F a c = addFin F a c) := by
  have h1 : ¬ (isNan F a ∨ isNan F c) := fun h => h.elim ha hc
  have h2 : ¬ (isInf F c ∧ sg F a ≠ sg F c) := fun h => ic h.1
  unfold add
  by_cases ia : isInf F a
  · exact .inl ⟨ia, by rw [if_neg h1, if_pos ia, if_neg h2]⟩
  · exact .inr ⟨ia, by rw [if_neg h1, if_neg ia, if_neg ic]⟩
theorem m_add_num (ok : F.Ok) {a c : Int} (ha : ¬ isNan F a) (hc : ¬ isNan F c) (ic : ¬ isInf F c) : ¬ isNan F (add F a c) := by
  rcases add_num ok ha hc ic with ⟨_, e⟩ | ⟨_, e⟩
  · rw [e]; exact ha
  · rw [e]; exact (addFin_ord ok a c).1
theorem ord_inf {x : Int} (h : isInf F x) : ord F x = signed (sg F x) (F.top * F.hid) := by rw [ord_def, oc_inf h]
theorem ord_bound (ok : F.Ok) {x : Int} (h : ¬ isNan F x) : 0 - F.top * F.hid ≤ ord F x ∧ ord F x ≤ F.top * F.hid := by
  have := oc_le ok h
  have := oc_nonneg ok x
  rw [ord_def]
  unfold signed
  split <;> lia
theorem ord_fin (ok : F.Ok) {x : Int} (h : ¬ isNan F x) (i : ¬ isInf F x) : 0 - F.top * F.hid < ord F x ∧ ord F x < F.top * F.hid := by
  have h1 : oc F x < F.top * F.hid := by
    rcases Int.lt_or_le (oc F x) (F.top * F.hid) with c | c
    · exact c
    · exact absurd (inf_oc ok h c) i
  have := oc_nonneg ok x
  rw [ord_def]
  unfold signed
  split <;> lia
theorem m_add_mono (ok : F.Ok) {a b c : Int} (ha : ¬ isNan F a) (hb : ¬ isNan F b) (hc : ¬ isNan F c) (ic : ¬ isInf F c) (sa : Sg F a) (sb : Sg F b) (sc : Sg F c) (h : cmpOf F a b ≤ 0) : cmpOf F (add F a c) (add F b c) = -1 ∨ cmpOf F (add F a c) (add F b c) = 0 := by
  have h := cmp_le.mp h
  have ht := top_pos ok
  apply cmp_of_le
  rcases add_num ok ha hc ic with ⟨ia, ea⟩ | ⟨ia, ea⟩ <;> rcases add_num ok hb hc ic with ⟨ib, eb⟩ | ⟨ib, eb⟩ <;> rw [ea, eb]
  · exact h
  · have b1 := sP_bound ok (V F b + V F c) F.least
    have b2 := ord_fin ok hb ib
    have b3 := (addFin_ord ok b c).2.1
    rw [ord_inf ia] at h ⊢
    unfold signed at *
    split <;> rename_i p <;> simp only [p, if_true, if_false] at h <;> lia
  · have b1 := sP_bound ok (V F a + V F c) F.least
    have b2 := ord_fin ok ha ia
    have b3 := (addFin_ord ok a c).2.1
    rw [ord_inf ib] at h ⊢
    unfold signed at *
    split <;> rename_i p <;> simp only [p, if_true, if_false] at h <;> lia
  · rw [(addFin_ord ok a c).2.1, (addFin_ord ok b c).2.1]
    exact sP_mono ok _ (by have := V_mono ok h; lia)

-- the double
theorem two_made (ok : F.Ok) : Made F (fromInt F 2) 0 (F.bias + 1) 0 ∧ 0 < F.bias ∧ F.bias + 1 < F.top := by
  have hh := (facts F ok).h
  have hf := (facts F ok).f
  have hp := (facts F ok).p
  have h2 := F.two_eq ok
  have hb : bitc 2 = 2 := bitc_uniq (c := 1) (by decide) (by decide)
  have hl : F.least = 1 - F.bias - F.fb := rfl
  have hpl : place F 2 0 = 1 - F.fb := by
    unfold place
    rw [hb]
    split <;> lia
  have hk : kept F 2 0 = F.hid := by
    unfold kept
    rw [hpl, rsh_neg (by lia), hid_pow2, show F.fb = (0 - (1 - (F.fb : Int) - 0)).toNat + 1 by lia, Int.pow_succ]
    rw [show ((0 - (1 - (((0 - (1 - (F.fb : Int) - 0)).toNat + 1 : Nat) : Int) - 0)).toNat) = (0 - (1 - (F.fb : Int) - 0)).toNat by lia]
    lia
  refine ⟨?_, by lia, by lia⟩
  unfold fromInt pack
  rw [if_neg (by lia), if_neg (by lia), hk, hpl, if_neg (by lia), if_neg (by lia), if_neg (by lia), show 1 - (F.fb : Int) - F.least + 1 = F.bias + 1 by lia, Int.sub_self]
  exact made ok (by lia) (by lia)
theorem m_sg_two (ok : F.Ok) : Sg F (fromInt F 2) := by
  have := (two_made ok).1.s
  unfold Sg
  lia
theorem m_dbl (ok : F.Ok) {x : Int} (h : ¬ isNan F x) (hs : Sg F x) : add F x x = mul F x (fromInt F 2) := by
  have hh := (facts F ok).h
  have hf := (facts F ok).f
  obtain ⟨tm, tb, tt⟩ := two_made ok
  have tn : ¬ isNan F (fromInt F 2) := fun n => n.2 tm.f
  have ti : ¬ isInf F (fromInt F 2) := fun n => by have := n.1; rw [tm.e] at this; lia
  have hd : differ (sg F x) (sg F (fromInt F 2)) = sg F x := by
    rw [tm.s]
    unfold differ
    unfold Sg at hs
    split <;> lia
  have n1 : ¬ (isNan F x ∨ isNan F x) := fun a => a.elim h h
  have n2 : ¬ (isNan F x ∨ isNan F (fromInt F 2)) := fun a => a.elim h tn
  unfold add mul
  rw [if_neg n1, if_neg n2, hd]
  by_cases ix : isInf F x
  · have h1 : ¬ (isInf F x ∧ sg F x ≠ sg F x) := fun a => a.2 rfl
    have h2 : isInf F x ∨ isInf F (fromInt F 2) := .inl ix
    have h3 : ¬ (isZero F x ∨ isZero F (fromInt F 2)) := by
      intro a
      unfold isZero at a
      rw [zero_oc ok, zero_oc ok] at a
      have := top_pos ok
      rcases a with a | a
      · rw [oc_inf ix] at a; lia
      · unfold oc at a
        rw [tm.e, tm.f] at a
        have := Int.mul_pos (show 0 < F.bias + 1 by lia) (show 0 < F.hid by lia)
        lia
    rw [if_pos ix, if_neg h1, if_pos h2, if_neg h3]
    have i := infi_made ok (sg F x)
    exact same i.s.symm (ix.1.trans i.e.symm) (ix.2.trans i.f.symm)
  · have h2 : ¬ (isInf F x ∨ isInf F (fromInt F 2)) := fun a => a.elim ix ti
    rw [if_neg ix, if_neg ix, if_neg h2]
    have hl : low F x x = expo F x := by unfold low; split <;> rfl
    have hm := mant_nonneg ok x
    have e1 : mant F (fromInt F 2) = F.hid := by
      unfold mant
      rw [tm.e, tm.f, if_neg (by lia)]; lia
    have e2 : expo F (fromInt F 2) = 1 - F.fb := by
      unfold expo
      rw [tm.e, if_neg (by lia)]
      unfold PForm.least
      lia
    have e3 : pack F (sg F x) (2 * mant F x) (expo F x) = pack F (sg F x) (mant F x * F.hid) (expo F x + (1 - F.fb)) := by
      refine pack_same ok (by lia) (Int.mul_nonneg hm (by lia)) ?_
      have := P_pow (F := F) (e := expo F x) (show 0 ≤ 2 * mant F x by lia) (F.fb - 1)
      rw [← this]
      congr 1
      · rw [hid_pow2, show F.fb = (F.fb - 1) + 1 by lia, Int.pow_succ]
        rw [show F.fb - 1 + 1 - 1 = F.fb - 1 by lia]
        grind
      · lia
    rw [e1, e2, ← e3]
    have ht : total F x x = signed (sg F x) (mant F x) + signed (sg F x) (mant F x) := by
      unfold total
      rw [hl, show (expo F x - expo F x).toNat = 0 by lia, Int.pow_zero, Int.mul_one]
    unfold addFin
    rw [hl]
    by_cases m0 : mant F x = 0
    · have t0 : total F x x = 0 := by rw [ht, m0]; unfold signed; split <;> rfl
      rw [if_pos t0, m0]
      unfold pack
      rw [if_pos (by lia)]
      have : both (sg F x) (sg F x) = sg F x := by
        unfold both
        unfold Sg at hs
        split <;> lia
      rw [this]
    · unfold Sg at hs
      by_cases s1 : sg F x = 1
      · have t1 : total F x x = 0 - 2 * mant F x := by rw [ht, s1]; unfold signed; rw [if_pos rfl]; lia
        rw [t1, if_neg (by lia), if_pos (by lia), s1, show 0 - (0 - 2 * mant F x) = 2 * mant F x by lia]
      · have s0 : sg F x = 0 := by lia
        have t1 : total F x x = 2 * mant F x := by rw [ht, s0]; unfold signed; rw [if_neg (by decide)]; lia
        rw [t1, if_neg (by lia), if_neg (by lia), s0]
-- the difference
theorem ord_neg (ok : F.Ok) {x : Int} (h : ¬ isNan F x) (hs : Sg F x) : V F (neg F x) = 0 - V F x := by
  have n := neg_made ok h
  unfold Sg at hs
  unfold V
  rw [mgn_eq n.e n.f, n.s]
  unfold signed
  split <;> split <;> lia
theorem m_sub (ok : F.Ok) {a b : Int} (ha : ¬ isNan F a) (hb : ¬ isNan F b) (sa : Sg F a) (sb : Sg F b) (h : cmpOf F a b ≠ 0) : sub F a b = neg F (sub F b a) := by
  have h := cmp_ne h
  have na := neg_made ok ha
  have nb := neg_made ok hb
  have ka := neg_num ok ha
  have kb := neg_num ok hb
  have n1 : ¬ (isNan F a ∨ isNan F (neg F b)) := fun q => q.elim ha kb
  have n2 : ¬ (isNan F b ∨ isNan F (neg F a)) := fun q => q.elim hb ka
  have iaa : isInf F (neg F a) ↔ isInf F a := by unfold isInf; rw [na.e, na.f]
  have ibb : isInf F (neg F b) ↔ isInf F b := by unfold isInf; rw [nb.e, nb.f]
  unfold sub
  have ea : add F a (neg F b) = if isInf F a then (if isInf F (neg F b) ∧ sg F a ≠ sg F (neg F b) then nan F else a) else if isInf F (neg F b) then neg F b else addFin F a (neg F b) := by
    rw [add, if_neg n1]
  have eb : add F b (neg F a) = if isInf F b then (if isInf F (neg F a) ∧ sg F b ≠ sg F (neg F a) then nan F else b) else if isInf F (neg F a) then neg F a else addFin F b (neg F a) := by
    rw [add, if_neg n2]
  rw [ea, eb]
  unfold Sg at sa sb
  by_cases ia : isInf F a
  · rw [if_pos ia]
    by_cases ib : isInf F b
    · have hs : sg F a ≠ sg F b := by
        intro e
        apply h
        rw [ord_inf ia, ord_inf ib, e]
      have q1 : ¬ (isInf F (neg F b) ∧ sg F a ≠ sg F (neg F b)) := fun q => q.2 (by rw [nb.s]; lia)
      have q2 : ¬ (isInf F (neg F a) ∧ sg F b ≠ sg F (neg F a)) := fun q => q.2 (by rw [na.s]; lia)
      rw [if_neg q1, if_pos ib, if_neg q2]
      exact same (by rw [nb.s]; lia) (by rw [nb.e, ia.1, ib.1]) (by rw [nb.f, ia.2, ib.2])
    · have q1 : ¬ (isInf F (neg F b) ∧ sg F a ≠ sg F (neg F b)) := fun q => ib (ibb.mp q.1)
      rw [if_neg q1, if_neg ib, if_pos (iaa.mpr ia), m_negneg ok ha]
  · rw [if_neg ia]
    by_cases ib : isInf F b
    · have q2 : ¬ (isInf F (neg F a) ∧ sg F b ≠ sg F (neg F a)) := fun q => ia (iaa.mp q.1)
      rw [if_pos (ibb.mpr ib), if_pos ib, if_neg q2]
    · have c1 : ¬ isInf F (neg F b) := fun q => ib (ibb.mp q)
      have c2 : ¬ isInf F (neg F a) := fun q => ia (iaa.mp q)
      rw [if_neg c1, if_neg ib, if_neg c2]
      have mb : mant F (neg F b) = mant F b ∧ expo F (neg F b) = expo F b := by unfold mant expo; rw [nb.e, nb.f]; exact ⟨rfl, rfl⟩
      have ma : mant F (neg F a) = mant F a ∧ expo F (neg F a) = expo F a := by unfold mant expo; rw [na.e, na.f]; exact ⟨rfl, rfl⟩
      have hl : low F a (neg F b) = low F b (neg F a) := by
        unfold low
        rw [mb.2, ma.2]
        split <;> split <;> lia
      have ht : total F a (neg F b) = 0 - total F b (neg F a) := by
        unfold total
        rw [hl, mb.1, mb.2, ma.1, ma.2, na.s, nb.s]
        unfold signed
        generalize mant F a * 2 ^ (expo F a - low F b (neg F a)).toNat = u
        generalize mant F b * 2 ^ (expo F b - low F b (neg F a)).toNat = v
        split <;> split <;> split <;> split <;> lia
      have h0 : total F b (neg F a) ≠ 0 := by
        intro e
        have t := total_V ok b (neg F a)
        rw [e, Int.zero_mul, ord_neg ok ha sa] at t
        exact h (V_inj ok (by lia))
      unfold addFin
      rw [ht, hl]
      generalize total F b (neg F a) = T at h0 ⊢
      generalize low F b (neg F a) = l
      rw [if_neg (show ¬ 0 - T = 0 by lia), if_neg h0]
      by_cases hT : T < 0
      · rw [if_neg (show ¬ 0 - T < 0 by lia), if_pos hT, pack_neg ok (by lia)]
        rfl
      · rw [if_pos (show 0 - T < 0 by lia), if_neg hT, pack_neg ok (by lia), show 0 - (0 - T) = T by lia]
        rfl
-- the floor
theorem floor_V (ok : F.Ok) (x : Int) : floorOf F x = V F x / 2 ^ (0 - F.least).toNat := by
  have hl := (facts F ok).l
  have he := expo_least ok x
  unfold floorOf V mgn
  rw [signed_mul]
  split
  · rw [show (expo F x - F.least).toNat = (expo F x).toNat + (0 - F.least).toNat by lia, mpow_add, ← Int.mul_assoc, Int.mul_ediv_cancel]
    have := mpow_pos (0 - F.least).toNat
    lia
  · rw [show (0 - F.least).toNat = (0 - expo F x).toNat + (expo F x - F.least).toNat by lia, mpow_add, Int.mul_ediv_mul_of_pos_left _ _ (mpow_pos _)]
theorem m_floor (ok : F.Ok) {a b : Int} (ha : ¬ isNan F a) (hb : ¬ isNan F b) (ia : ¬ isInf F a) (ib : ¬ isInf F b) (sa : Sg F a) (sb : Sg F b) (h : cmpOf F a b ≤ 0) : floorOf F a ≤ floorOf F b := by
  rw [floor_V ok, floor_V ok]
  exact Int.ediv_le_ediv (mpow_pos _) (V_mono ok (cmp_le.mp h))
-- products
theorem mul_V (ok : F.Ok) {a t : Int} (sa : Sg F a) (st : sg F t = 0) : Packed F (pack F (differ (sg F a) (sg F t)) (mant F a * mant F t) (expo F a + expo F t)) (sg F a) (P F (mant F a * mant F t) (expo F a + expo F t)) ∧ signed (sg F a) (P F (mant F a * mant F t) (expo F a + expo F t)) = sP F (V F a * V F t) (2 * F.least) := by
  have ma := mant_nonneg ok a
  have mt := mant_nonneg ok t
  have hm := Int.mul_nonneg ma mt
  have la := expo_least ok a
  have lt := expo_least ok t
  have hd : differ (sg F a) (sg F t) = sg F a := by
    rw [st]
    unfold differ
    unfold Sg at sa
    split <;> lia
  rw [hd]
  refine ⟨pack_made ok hm, ?_⟩
  have e : V F a * V F t = signed (sg F a) (mant F a * mant F t * 2 ^ (expo F a + expo F t - 2 * F.least).toNat) := by
    unfold V mgn
    rw [st]
    rw [show signed 0 (mant F t * 2 ^ (expo F t - F.least).toNat) = mant F t * 2 ^ (expo F t - F.least).toNat from rfl]
    rw [show (expo F a + expo F t - 2 * F.least).toNat = (expo F a - F.least).toNat + (expo F t - F.least).toNat by lia, mpow_add]
    generalize (2 : Int) ^ (expo F a - F.least).toNat = p
    generalize (2 : Int) ^ (expo F t - F.least).toNat = q
    rw [show mant F a * mant F t * (p * q) = mant F a * p * (mant F t * q) by grind, signed_mul (sg F a) (mant F a * p)]
  rw [e, sP_signed _ (Int.mul_nonneg hm (Int.le_of_lt (mpow_pos _)))]
  have := P_pow (F := F) (e := expo F a + expo F t) hm (expo F a + expo F t - 2 * F.least).toNat
  rw [← this]
  congr 2
  lia
theorem mul_cases (ok : F.Ok) {a t : Int} (ha : ¬ isNan F a) (ht : ¬ isNan F t) (sa : Sg F a) (st : sg F t = 0) (hn : ¬ isNan F (mul F a t)) :
    ((isInf F a ∨ isInf F t) ∧ 0 < oc F a ∧ ord F (mul F a t) = signed (sg F a) (F.top * F.hid)) ∨ (¬ isInf F a ∧ ¬ isInf F t ∧ ord F (mul F a t) = sP F (V F a * V F t) (2 * F.least)) := by
  have n1 : ¬ (isNan F a ∨ isNan F t) := fun q => q.elim ha ht
  have e0 : mul F a t = if isInf F a ∨ isInf F t then (if isZero F a ∨ isZero F t then nan F else infi F (differ (sg F a) (sg F t))) else pack F (differ (sg F a) (sg F t)) (mant F a * mant F t) (expo F a + expo F t) := by
    rw [mul, if_neg n1]
  rw [e0] at hn ⊢
  by_cases hi : isInf F a ∨ isInf F t
  · left
    rw [if_pos hi] at hn ⊢
    by_cases hz : isZero F a ∨ isZero F t
    · rw [if_pos hz] at hn
      exact absurd (nan_isNan ok) hn
    · rw [if_neg hz]
      have i := infi_made ok (differ (sg F a) (sg F t))
      refine ⟨hi, ?_, ?_⟩
      · have := oc_nonneg ok a
        rcases Int.lt_or_eq_of_le this with c | c
        · exact c
        · exact absurd (.inl (by unfold isZero; rw [zero_oc ok]; exact c.symm)) hz
      · rw [ord_inf ⟨i.e, i.f⟩, i.s, st]
        congr 1
        unfold differ
        unfold Sg at sa
        split <;> lia
  · right
    rw [if_neg hi]
    have m := mul_V ok sa st
    refine ⟨fun q => hi (.inl q), fun q => hi (.inr q), ?_⟩
    rw [ord_packed m.1, m.2]
theorem m_mul_mono (ok : F.Ok) {a b c : Int} (ha : ¬ isNan F a) (hb : ¬ isNan F b) (hc : ¬ isNan F c) (sa : Sg F a) (sb : Sg F b) (sc : Sg F c) (h : cmpOf F a b ≤ 0) (hn : ¬ (isNan F (mul F a (absr F c)) ∨ isNan F (mul F b (absr F c)))) :
  cmpOf F (mul F a (absr F c)) (mul F b (absr F c)) = -1 ∨ cmpOf F (mul F a (absr F c)) (mul F b (absr F c)) = 0 := by
  have h := cmp_le.mp h
  have ht := top_pos ok
  have tn := m_abs_num ok hc
  have ts := (abs_made ok hc).s
  have vt : 0 ≤ V F (absr F c) := by
    unfold V
    rw [ts]
    exact mgn_nonneg ok _
  apply cmp_of_le
  unfold Sg at sa sb
  rcases mul_cases ok ha tn sa ts (fun q => hn (.inl q)) with ⟨ia, za, ea⟩ | ⟨ia, it, ea⟩ <;> rcases mul_cases ok hb tn sb ts (fun q => hn (.inr q)) with ⟨ib, zb, eb⟩ | ⟨ib, it', eb⟩ <;> rw [ea, eb]
  · rw [ord_def, ord_def] at h
    unfold signed at *
    split <;> split <;> rename_i p q <;> simp only [p, q, if_true, if_false] at h <;> lia
  · have i := ia.resolve_right it'
    have b1 := sP_bound ok (V F b * V F (absr F c)) (2 * F.least)
    have b2 := ord_fin ok hb ib
    rw [ord_inf i] at h
    unfold signed at *
    split <;> rename_i p <;> simp only [p, if_true, if_false] at h <;> lia
  · have i := ib.resolve_right it
    have b1 := sP_bound ok (V F a * V F (absr F c)) (2 * F.least)
    have b2 := ord_fin ok ha ia
    rw [ord_inf i] at h
    unfold signed at *
    split <;> rename_i p <;> simp only [p, if_true, if_false] at h <;> lia
  · exact sP_mono ok _ (mmul_le (V_mono ok h) vt)
end
end
end Mine
namespace Mine
-- the words
theorem room_d {d j k l : Nat} (h : d + k < l) (hj : 1 + j ≤ k) : d + 1 + j < l := by omega
theorem room_u {d j k l : Nat} (h : d + 8 * k < l) (hj : 1 + j ≤ k) : d + 3 + 8 * j < l := by omega
local macro_rules | `(tactic| k_mem) => `(tactic| assumption)
local macro_rules | `(tactic| walk_at $s:str) => `(tactic| k_extra $s)
theorem wd1 : True := by
  k_with "mine:sub" => (first | exact fun _ h => h | exact fun _ h => List.mem_cons_of_mem _ h | exact fun _ h => List.mem_cons_of_mem _ (List.mem_cons_of_mem _ h) | (intro p h9; simp only [List.mem_cons, h9, or_true]))
  trivial
theorem wd2 : True := by
  k_with "mine:side" => ((
      (case k1 => k_asm); (case k2 => k_asm); (case k3 => k_asm); (case k4 => k_asm); (case k5 => k_asm); (case kK => first | exact rfl | assumption); (case kC => walk_at "mine:spec"); (case kd => first | decide | exact room_d (by assumption) (by decide) | ktr_room | omega); (case ku => first | decide | exact room_u (by assumption) (by decide) | ktr_units | omega)))
  trivial
/-- the walk halts here -/
def Hold (p : Prop) : Prop := p
theorem Hold.mk {p : Prop} (h : p) : Hold p := h
theorem Hold.out {p : Prop} (h : Hold p) : p := h
def JoinQ (h₀ : Heap) (L : Addr) (m : Str → Option Value) (news : List (Addr × Obj)) (s : Shared) (Q : Flow → Shared → Prop) (f : Flow) (s' : Shared) : Prop :=
  match f with
  | .next => ∃ h tk, s' = { s with heap := h, toks := tk } ∧ Fr h₀ L h m ∧ News h₀ L h news
  | f => Q f s'
theorem JoinQ.next {h₀ : Heap} {L : Addr} {m : Str → Option Value} {news news' : List (Addr × Obj)} {s : Shared} {Q : Flow → Shared → Prop} {h : Heap} {tk : Nat} (F : Fr h₀ L h m) (N : News h₀ L h news') (hs : ∀ p ∈ news, p ∈ news') : JoinQ h₀ L m news s Q .next { s with heap := h, toks := tk } := ⟨h, tk, rfl, F, fun p hp => N p (hs p hp)⟩
theorem JoinQ.ret {h₀ : Heap} {L : Addr} {m : Str → Option Value} {news : List (Addr × Obj)} {s s' : Shared} {Q : Flow → Shared → Prop} {v : Value} (h : Q (.ret v) s') : JoinQ h₀ L m news s Q (.ret v) s' := h
theorem execs_join {M : Model} {A : Around} {E : Value → Shared → Prop} {s : Shared} {env : Env} {h₀ : Heap} {L : Addr} {m : Str → Option Value} {news : List (Addr × Obj)} {st : Stmt} {rest : List Stmt} {Q : Flow → Shared → Prop}
    (F : Fr h₀ L s.heap m) (N : News h₀ L s.heap news) (h1 : wpAny M A (exec st env) (JoinQ h₀ L m news s Q) E s)
    (h2 : ∀ h tk, Fr h₀ L h m → News h₀ L h news → wpAny M A (execs rest env) Q E { s with heap := h, toks := tk }) : Hold (wpAny M A (execs (st :: rest) env) Q E s) :=
  wpAny_execs_cons (wpAny_mono h1 (fun f s' h => by
    cases f with
    | next => obtain ⟨h', tk, rfl, F', N'⟩ := h; exact h2 _ _ F' N'
    | _ => exact h) fun _ _ e => e)
def JoinV (h₀ : Heap) (L : Addr) (m : Str → Option Value) (news : List (Addr × Obj)) (s : Shared) (Q : Flow → Shared → Prop) (y : Str) (f : Flow) (s' : Shared) : Prop :=
  match f with
  | .next => ∃ v h tk, s' = { s with heap := h, toks := tk } ∧ Fr h₀ L h (fun z => if z = y then v else m z) ∧ News h₀ L h news
  | f => Q f s'
theorem JoinV.stay {h₀ : Heap} {L : Addr} {m : Str → Option Value} {news news' : List (Addr × Obj)} {s : Shared} {Q : Flow → Shared → Prop} {y : Str} {h : Heap} {tk : Nat} (F : Fr h₀ L h m) (N : News h₀ L h news') (hs : ∀ p ∈ news, p ∈ news') : JoinV h₀ L m news s Q y .next { s with heap := h, toks := tk } := by
  have e : (fun z => if z = y then m y else m z) = m := by
    funext z
    split
    · rename_i q; rw [q]
    · rfl
  exact ⟨m y, h, tk, rfl, by rw [e]; exact F, fun p hp => N p (hs p hp)⟩
theorem JoinV.stored {h₀ : Heap} {L : Addr} {m : Str → Option Value} {news news' : List (Addr × Obj)} {s : Shared} {Q : Flow → Shared → Prop} {y : Str} {v : Value} {h : Heap} {tk : Nat} (F : Fr h₀ L h (fun z => if z = y then some v else m z)) (N : News h₀ L h news') (hs : ∀ p ∈ news, p ∈ news') : JoinV h₀ L m news s Q y .next { s with heap := h, toks := tk } :=
  ⟨some v, h, tk, rfl, F, fun p hp => N p (hs p hp)⟩
theorem JoinV.ret {h₀ : Heap} {L : Addr} {m : Str → Option Value} {news : List (Addr × Obj)} {s s' : Shared} {Q : Flow → Shared → Prop} {y : Str} {v : Value} (h : Q (.ret v) s') : JoinV h₀ L m news s Q y (.ret v) s' := h
theorem execs_joinV {M : Model} {A : Around} {E : Value → Shared → Prop} {s : Shared} {env : Env} {h₀ : Heap} {L : Addr} {m : Str → Option Value} {news : List (Addr × Obj)} {st : Stmt} {rest : List Stmt} {Q : Flow → Shared → Prop} (y : Str)
    (_ : Fr h₀ L s.heap m) (_ : News h₀ L s.heap news) (h1 : wpAny M A (exec st env) (JoinV h₀ L m news s Q y) E s)
    (h2 : ∀ v h tk, Fr h₀ L h (fun z => if z = y then v else m z) → News h₀ L h news → wpAny M A (execs rest env) Q E { s with heap := h, toks := tk }) : wpAny M A (execs (st :: rest) env) Q E s :=
  wpAny_execs_cons (wpAny_mono h1 (fun f s' h => by
    cases f with
    | next => obtain ⟨v, h', tk, rfl, F', N'⟩ := h; exact h2 _ _ _ F' N'
    | _ => exact h) fun _ _ e => e)
/-- a name is stored, with a value of which P holds -/
def JoinS (h₀ : Heap) (L : Addr) (m : Str → Option Value) (news : List (Addr × Obj)) (s : Shared) (Q : Flow → Shared → Prop) (y : Str) (P : Value → Prop) (f : Flow) (s' : Shared) : Prop :=
  match f with
  | .next => ∃ v h tk, s' = { s with heap := h, toks := tk } ∧ P v ∧ Fr h₀ L h (fun z => if z = y then some v else m z) ∧ News h₀ L h news
  | f => Q f s'
theorem JoinS.mk {h₀ : Heap} {L : Addr} {m : Str → Option Value} {news news' : List (Addr × Obj)} {s : Shared} {Q : Flow → Shared → Prop} {y : Str} {P : Value → Prop} {v : Value} {h : Heap} {tk : Nat} (F : Fr h₀ L h (fun z => if z = y then some v else m z)) (N : News h₀ L h news') (hs : ∀ p ∈ news, p ∈ news') (hP : P v) : JoinS h₀ L m news s Q y P .next { s with heap := h, toks := tk } :=
  ⟨v, h, tk, rfl, hP, F, fun p hp => N p (hs p hp)⟩
theorem execs_joinS {M : Model} {A : Around} {E : Value → Shared → Prop} {s : Shared} {env : Env} {h₀ : Heap} {L : Addr} {m : Str → Option Value} {news : List (Addr × Obj)} {st : Stmt} {rest : List Stmt} {Q : Flow → Shared → Prop} (y : Str) (P : Value → Prop)
    (_ : Fr h₀ L s.heap m) (_ : News h₀ L s.heap news) (h1 : wpAny M A (exec st env) (JoinS h₀ L m news s Q y P) E s)
    (h2 : ∀ v h tk, P v → Fr h₀ L h (fun z => if z = y then some v else m z) → News h₀ L h news → wpAny M A (execs rest env) Q E { s with heap := h, toks := tk }) : wpAny M A (execs (st :: rest) env) Q E s :=
  wpAny_execs_cons (wpAny_mono h1 (fun f s' h => by
    cases f with
    | next => obtain ⟨v, h', tk, rfl, hP, F', N'⟩ := h; exact h2 _ _ _ hP F' N'
    | _ => exact h) fun _ _ e => e)
/-- two names are stored, with ints of which P holds -/
def JoinP (h₀ : Heap) (L : Addr) (m : Str → Option Value) (news : List (Addr × Obj)) (s : Shared) (Q : Flow → Shared → Prop) (y z : Str) (P : Int → Int → Prop) (f : Flow) (s' : Shared) : Prop :=
  match f with
  | .next => ∃ i j t u h tk, s' = { s with heap := h, toks := tk } ∧ P i j ∧ Fr h₀ L h (fun x => if x = z then some (.int j u) else if x = y then some (.int i t) else m x) ∧ News h₀ L h news
  | f => Q f s'
theorem JoinP.mk {h₀ : Heap} {L : Addr} {m : Str → Option Value} {news news' : List (Addr × Obj)} {s : Shared} {Q : Flow → Shared → Prop} {y z : Str} {P : Int → Int → Prop} {i j : Int} {t u : Tok} {h : Heap} {tk : Nat} (F : Fr h₀ L h (fun x => if x = z then some (.int j u) else if x = y then some (.int i t) else m x)) (N : News h₀ L h news') (hs : ∀ p ∈ news, p ∈ news') (hP : P i j) : JoinP h₀ L m news s Q y z P .next { s with heap := h, toks := tk } :=
  ⟨i, j, t, u, h, tk, rfl, hP, F, fun p hp => N p (hs p hp)⟩
theorem execs_joinP {M : Model} {A : Around} {E : Value → Shared → Prop} {s : Shared} {env : Env} {h₀ : Heap} {L : Addr} {m : Str → Option Value} {news : List (Addr × Obj)} {st : Stmt} {rest : List Stmt} {Q : Flow → Shared → Prop} (y z : Str) (P : Int → Int → Prop)
    (_ : Fr h₀ L s.heap m) (_ : News h₀ L s.heap news) (h1 : wpAny M A (exec st env) (JoinP h₀ L m news s Q y z P) E s)
    (h2 : ∀ i j t u h tk, P i j → Fr h₀ L h (fun x => if x = z then some (.int j u) else if x = y then some (.int i t) else m x) → News h₀ L h news → wpAny M A (execs rest env) Q E { s with heap := h, toks := tk }) : wpAny M A (execs (st :: rest) env) Q E s :=
  wpAny_execs_cons (wpAny_mono h1 (fun f s' h => by
    cases f with
    | next => obtain ⟨i, j, t, u, h', tk, rfl, hP, F', N'⟩ := h; exact h2 _ _ _ _ _ _ hP F' N'
    | _ => exact h) fun _ _ e => e)
theorem Hold.step {M : Model} {A : Around} {E : Value → Shared → Prop} {s : Shared} {env : Env} {st : Stmt} {rest : List Stmt} {Q : Flow → Shared → Prop}
    (h : wpAny M A (exec st env) (fun f s' => match f with | .next => wpAny M A (execs rest env) Q E s' | f => Q f s') E s) : Hold (wpAny M A (execs (st :: rest) env) Q E s) := wpAny_execs_cons h
theorem st_any {α : Type} {M : Model} {A : Around} {T : Sem α} {Q : α → Shared → Prop} {E : Value → Shared → Prop} (s : Shared) {h₀ h : Heap} {L : Addr} {m : Str → Option Value} {t : Nat} (_ : Fr h₀ L h m) (k : ∀ tk, wpAny M A T Q E { s with heap := h, toks := tk }) : wpAny M A T Q E { s with heap := h, toks := t } := k t
theorem JoinS.stay {h₀ : Heap} {L : Addr} {m : Str → Option Value} {news news' : List (Addr × Obj)} {s : Shared} {Q : Flow → Shared → Prop} {y : Str} {P : Value → Prop} {v : Value} {h : Heap} {tk : Nat} (F : Fr h₀ L h m) (N : News h₀ L h news') (hs : ∀ p ∈ news, p ∈ news') (hv : m y = some v) (hP : P v) : JoinS h₀ L m news s Q y P .next { s with heap := h, toks := tk } := by
  have e : (fun z => if z = y then some v else m z) = m := by
    funext z
    split
    · rename_i q; rw [q, hv]
    · rfl
  exact ⟨v, h, tk, rfl, hP, by rw [e]; exact F, fun p hp => N p (hs p hp)⟩
structure HoldOff : Prop
section
theorem wd3 : True := by
  k_with "mine:form" => (first | assumption | (apply FormIn.cons; walk_at "mine:form"))
  trivial
theorem wd4 : True := by
  k_with "call ref" => ((k_here; k_dflt (refine' SpecV.use ?k1 ?k2 ?k3 ?k4 ?k5 ?kK ?kC ?kd ?ku ?_; walk_at "mine:side"); intro t9 h9 tk9 F9 N9; (try dsimp only); (try k_fold)))
  trivial
theorem wd5 : True := by
  k_with "call ref" => ((k_here; k_dflt (refine' SpecT.use ?k1 ?k2 ?k3 ?k4 ?k5 ?kK ?kC ?kd ?ku ?_; walk_at "mine:side"); intro D9 t9 u9 v9 c9 h9 tk9 F9 N9; (try dsimp only); (try k_fold)))
  trivial
theorem wd65 : True := by
  k_with "execs cons" => (k_here; (with_reducible show wpAny _ _ (execs (_ :: _) _) _ _ (Shared.mk _ _ _ (_ + _) _)); (rename Shared => s9); (rename Fr _ _ _ _ => F9); (refine st_any s9 F9 ?_); intro tk9)
  trivial
variable {w : World} {mean : ExcName → Option Value} {mg mb : Str → Option Value} {news : List (Addr × Obj)} {Fo : Addr} {F : PForm}
theorem two_pow (F : PForm) : (2 : Int) ^ (F.eb : Int).toNat = F.two := by rw [Int.toNat_natCast]; rfl
theorem hid_pow (F : PForm) : (2 : Int) ^ (F.fb : Int).toNat = F.hid := by rw [Int.toNat_natCast]; rfl
set_option maxHeartbeats 4000000 in
theorem sp_split (hF : FormIn news Fo F) (ok : F.Ok) (x : Int) (t : Tok) : SpecT w mean mg mb news 49 [.ref Fo, .int x t] 1 (sg F x) (ex F x) (fr F x) := by
  obtain ⟨dx, k1, k2, k3, k4, k5, k6, t1, t2, t3, t4, t5, t6, u1, u2, u3, u4, u5, u6, hm1, hm2⟩ := id hF
  obtain ⟨fe, ff, fh, ft, fp, fl⟩ := facts F ok
  (first | (unfold SpecT; w_on; k_fill; intros; refine wpAny_call ?_; k_dflt ((first | ((refine' code_def ?k1 ?k2 ?k3 ?k4 ?k5 ?kA ?kF ?kK ?k6 ?k7 ?k8 ?k9 ?kB ?_ ?c2 ?c3 ?c4 ?c5; (case kA => exact rfl); (case kF => exact rfl); (case kK => assumption); (case k1 => k_asm); (case k2 => k_asm); (case k3 => k_asm); (case k4 => k_asm); (case k5 => k_asm); (case k6 => k_is); (case k7 => k_is); (case k8 => ktr_room); (case k9 => first | exact BindsTo.of_eq rfl | exact binds_K (by k_in) rfl (by k_is) rfl rfl rfl); (case c5 => decide); (case kB => exact locs rfl); (case c2 => exact rfl); (case c3 => exact rfl); (case c4 => exact rfl); k_whole; intro g' L' h' FG' F' N' B' X' T'; (try dsimp only); (try k_lift B'); (try k_fold))) | cell_enter)); k_steps) | (unfold SpecV; w_on; k_fill; intros; refine wpAny_call ?_; k_dflt ((first | ((refine' code_def ?k1 ?k2 ?k3 ?k4 ?k5 ?kA ?kF ?kK ?k6 ?k7 ?k8 ?k9 ?kB ?_ ?c2 ?c3 ?c4 ?c5; (case kA => exact rfl); (case kF => exact rfl); (case kK => assumption); (case k1 => k_asm); (case k2 => k_asm); (case k3 => k_asm); (case k4 => k_asm); (case k5 => k_asm); (case k6 => k_is); (case k7 => k_is); (case k8 => ktr_room); (case k9 => first | exact BindsTo.of_eq rfl | exact binds_K (by k_in) rfl (by k_is) rfl rfl rfl); (case c5 => decide); (case kB => exact locs rfl); (case c2 => exact rfl); (case c3 => exact rfl); (case c4 => exact rfl); k_whole; intro g' L' h' FG' F' N' B' X' T'; (try dsimp only); (try k_lift B'); (try k_fold))) | cell_enter)); k_steps))
  (first | (refine' SpecV.finI (by assumption) (by assumption) (by assumption) (by walk_at "mine:sub") ?_) | (refine' SpecV.finB (by assumption) (by assumption) (by assumption) (by walk_at "mine:sub") ?_) | (refine' SpecV.finN (by assumption) (by assumption) (by assumption) (by walk_at "mine:sub")) | (refine' SpecT.fin (by assumption) (by assumption) (by assumption) (by walk_at "mine:sub") ?_ ?_ ?_) | (exfalso; omega))
  · rw [two_pow, Int.fdiv_eq_ediv_of_nonneg _ (by omega), Int.fdiv_eq_ediv_of_nonneg _ (by omega)]; rfl
  · rw [show F.top = 2 ^ F.eb - 1 from rfl, kbt_mask, Int.fdiv_eq_ediv_of_nonneg _ (by omega)]; rfl
  · rw [Int.fmod_eq_emod_of_nonneg _ (by omega)]; rfl
theorem wd6 : True := by
  k_with "mine:spec" => (exact sp_split (by walk_at "mine:form") (by assumption) _ _)
  trivial
set_option maxHeartbeats 4000000 in
theorem sp_nan (hF : FormIn news Fo F) (ok : F.Ok) (x : Int) (t : Tok) : SpecV w mean mg mb news 77 [.ref Fo, .int x t] 2 (fun _ => .bool (decide (isNan F x))) := by
  obtain ⟨dx, k1, k2, k3, k4, k5, k6, t1, t2, t3, t4, t5, t6, u1, u2, u3, u4, u5, u6, hm1, hm2⟩ := id hF
  obtain ⟨fe, ff, fh, ft, fp, fl⟩ := facts F ok
  (first | (unfold SpecT; w_on; k_fill; intros; refine wpAny_call ?_; k_dflt ((first | ((refine' code_def ?k1 ?k2 ?k3 ?k4 ?k5 ?kA ?kF ?kK ?k6 ?k7 ?k8 ?k9 ?kB ?_ ?c2 ?c3 ?c4 ?c5; (case kA => exact rfl); (case kF => exact rfl); (case kK => assumption); (case k1 => k_asm); (case k2 => k_asm); (case k3 => k_asm); (case k4 => k_asm); (case k5 => k_asm); (case k6 => k_is); (case k7 => k_is); (case k8 => ktr_room); (case k9 => first | exact BindsTo.of_eq rfl | exact binds_K (by k_in) rfl (by k_is) rfl rfl rfl); (case c5 => decide); (case kB => exact locs rfl); (case c2 => exact rfl); (case c3 => exact rfl); (case c4 => exact rfl); k_whole; intro g' L' h' FG' F' N' B' X' T'; (try dsimp only); (try k_lift B'); (try k_fold))) | cell_enter)); k_steps) | (unfold SpecV; w_on; k_fill; intros; refine wpAny_call ?_; k_dflt ((first | ((refine' code_def ?k1 ?k2 ?k3 ?k4 ?k5 ?kA ?kF ?kK ?k6 ?k7 ?k8 ?k9 ?kB ?_ ?c2 ?c3 ?c4 ?c5; (case kA => exact rfl); (case kF => exact rfl); (case kK => assumption); (case k1 => k_asm); (case k2 => k_asm); (case k3 => k_asm); (case k4 => k_asm); (case k5 => k_asm); (case k6 => k_is); (case k7 => k_is); (case k8 => ktr_room); (case k9 => first | exact BindsTo.of_eq rfl | exact binds_K (by k_in) rfl (by k_is) rfl rfl rfl); (case c5 => decide); (case kB => exact locs rfl); (case c2 => exact rfl); (case c3 => exact rfl); (case c4 => exact rfl); k_whole; intro g' L' h' FG' F' N' B' X' T'; (try dsimp only); (try k_lift B'); (try k_fold))) | cell_enter)); k_steps))
  all_goals (first | (refine' SpecV.finI (by assumption) (by assumption) (by assumption) (by walk_at "mine:sub") ?_) | (refine' SpecV.finB (by assumption) (by assumption) (by assumption) (by walk_at "mine:sub") ?_) | (refine' SpecV.finN (by assumption) (by assumption) (by assumption) (by walk_at "mine:sub")) | (refine' SpecT.fin (by assumption) (by assumption) (by assumption) (by walk_at "mine:sub") ?_ ?_ ?_) | (exfalso; omega))
  all_goals (rw [Bool.eq_iff_iff]; ((simp only [decide_eq_true_eq, decide_eq_false_iff_not, beq_iff_eq, bne_iff_ne, beq_eq_false_iff_ne, bne_eq_false_iff_eq, ne_eq, Bool.not_eq_true, Bool.not_eq_false, Bool.not_eq_eq_eq_not, Bool.not_true, Bool.not_false, Bool.and_eq_true, Bool.or_eq_true, Bool.and_eq_false_imp, Bool.or_eq_false_iff, isNan, isInf, isZero, Bool.false_eq_true, false_iff, true_iff] at *)); omega)
set_option maxHeartbeats 4000000 in
theorem sp_inf (hF : FormIn news Fo F) (ok : F.Ok) (x : Int) (t : Tok) : SpecV w mean mg mb news 84 [.ref Fo, .int x t] 2 (fun _ => .bool (decide (isInf F x))) := by
  obtain ⟨dx, k1, k2, k3, k4, k5, k6, t1, t2, t3, t4, t5, t6, u1, u2, u3, u4, u5, u6, hm1, hm2⟩ := id hF
  obtain ⟨fe, ff, fh, ft, fp, fl⟩ := facts F ok
  (first | (unfold SpecT; w_on; k_fill; intros; refine wpAny_call ?_; k_dflt ((first | ((refine' code_def ?k1 ?k2 ?k3 ?k4 ?k5 ?kA ?kF ?kK ?k6 ?k7 ?k8 ?k9 ?kB ?_ ?c2 ?c3 ?c4 ?c5; (case kA => exact rfl); (case kF => exact rfl); (case kK => assumption); (case k1 => k_asm); (case k2 => k_asm); (case k3 => k_asm); (case k4 => k_asm); (case k5 => k_asm); (case k6 => k_is); (case k7 => k_is); (case k8 => ktr_room); (case k9 => first | exact BindsTo.of_eq rfl | exact binds_K (by k_in) rfl (by k_is) rfl rfl rfl); (case c5 => decide); (case kB => exact locs rfl); (case c2 => exact rfl); (case c3 => exact rfl); (case c4 => exact rfl); k_whole; intro g' L' h' FG' F' N' B' X' T'; (try dsimp only); (try k_lift B'); (try k_fold))) | cell_enter)); k_steps) | (unfold SpecV; w_on; k_fill; intros; refine wpAny_call ?_; k_dflt ((first | ((refine' code_def ?k1 ?k2 ?k3 ?k4 ?k5 ?kA ?kF ?kK ?k6 ?k7 ?k8 ?k9 ?kB ?_ ?c2 ?c3 ?c4 ?c5; (case kA => exact rfl); (case kF => exact rfl); (case kK => assumption); (case k1 => k_asm); (case k2 => k_asm); (case k3 => k_asm); (case k4 => k_asm); (case k5 => k_asm); (case k6 => k_is); (case k7 => k_is); (case k8 => ktr_room); (case k9 => first | exact BindsTo.of_eq rfl | exact binds_K (by k_in) rfl (by k_is) rfl rfl rfl); (case c5 => decide); (case kB => exact locs rfl); (case c2 => exact rfl); (case c3 => exact rfl); (case c4 => exact rfl); k_whole; intro g' L' h' FG' F' N' B' X' T'; (try dsimp only); (try k_lift B'); (try k_fold))) | cell_enter)); k_steps))
  all_goals (first | (refine' SpecV.finI (by assumption) (by assumption) (by assumption) (by walk_at "mine:sub") ?_) | (refine' SpecV.finB (by assumption) (by assumption) (by assumption) (by walk_at "mine:sub") ?_) | (refine' SpecV.finN (by assumption) (by assumption) (by assumption) (by walk_at "mine:sub")) | (refine' SpecT.fin (by assumption) (by assumption) (by assumption) (by walk_at "mine:sub") ?_ ?_ ?_) | (exfalso; omega))
  all_goals (rw [Bool.eq_iff_iff]; ((simp only [decide_eq_true_eq, decide_eq_false_iff_not, beq_iff_eq, bne_iff_ne, beq_eq_false_iff_ne, bne_eq_false_iff_eq, ne_eq, Bool.not_eq_true, Bool.not_eq_false, Bool.not_eq_eq_eq_not, Bool.not_true, Bool.not_false, Bool.and_eq_true, Bool.or_eq_true, Bool.and_eq_false_imp, Bool.or_eq_false_iff, isNan, isInf, isZero, Bool.false_eq_true, false_iff, true_iff] at *)); omega)
set_option maxHeartbeats 4000000 in
theorem sp_zero (hF : FormIn news Fo F) (ok : F.Ok) (x : Int) (t : Tok) : SpecV w mean mg mb news 91 [.ref Fo, .int x t] 1 (fun _ => .bool (decide (isZero F x))) := by
  obtain ⟨dx, k1, k2, k3, k4, k5, k6, t1, t2, t3, t4, t5, t6, u1, u2, u3, u4, u5, u6, hm1, hm2⟩ := id hF
  obtain ⟨fe, ff, fh, ft, fp, fl⟩ := facts F ok
  have hp : 0 < F.hid * 2 ^ (F.eb : Int).toNat := by rw [two_pow]; exact Int.mul_pos (by omega) (by omega)
  (first | (unfold SpecT; w_on; k_fill; intros; refine wpAny_call ?_; k_dflt ((first | ((refine' code_def ?k1 ?k2 ?k3 ?k4 ?k5 ?kA ?kF ?kK ?k6 ?k7 ?k8 ?k9 ?kB ?_ ?c2 ?c3 ?c4 ?c5; (case kA => exact rfl); (case kF => exact rfl); (case kK => assumption); (case k1 => k_asm); (case k2 => k_asm); (case k3 => k_asm); (case k4 => k_asm); (case k5 => k_asm); (case k6 => k_is); (case k7 => k_is); (case k8 => ktr_room); (case k9 => first | exact BindsTo.of_eq rfl | exact binds_K (by k_in) rfl (by k_is) rfl rfl rfl); (case c5 => decide); (case kB => exact locs rfl); (case c2 => exact rfl); (case c3 => exact rfl); (case c4 => exact rfl); k_whole; intro g' L' h' FG' F' N' B' X' T'; (try dsimp only); (try k_lift B'); (try k_fold))) | cell_enter)); k_steps) | (unfold SpecV; w_on; k_fill; intros; refine wpAny_call ?_; k_dflt ((first | ((refine' code_def ?k1 ?k2 ?k3 ?k4 ?k5 ?kA ?kF ?kK ?k6 ?k7 ?k8 ?k9 ?kB ?_ ?c2 ?c3 ?c4 ?c5; (case kA => exact rfl); (case kF => exact rfl); (case kK => assumption); (case k1 => k_asm); (case k2 => k_asm); (case k3 => k_asm); (case k4 => k_asm); (case k5 => k_asm); (case k6 => k_is); (case k7 => k_is); (case k8 => ktr_room); (case k9 => first | exact BindsTo.of_eq rfl | exact binds_K (by k_in) rfl (by k_is) rfl rfl rfl); (case c5 => decide); (case kB => exact locs rfl); (case c2 => exact rfl); (case c3 => exact rfl); (case c4 => exact rfl); k_whole; intro g' L' h' FG' F' N' B' X' T'; (try dsimp only); (try k_lift B'); (try k_fold))) | cell_enter)); k_steps))
  all_goals (first | (refine' SpecV.finI (by assumption) (by assumption) (by assumption) (by walk_at "mine:sub") ?_) | (refine' SpecV.finB (by assumption) (by assumption) (by assumption) (by walk_at "mine:sub") ?_) | (refine' SpecV.finN (by assumption) (by assumption) (by assumption) (by walk_at "mine:sub")) | (refine' SpecT.fin (by assumption) (by assumption) (by assumption) (by walk_at "mine:sub") ?_ ?_ ?_) | (exfalso; omega))
  rw [Int.fmod_eq_emod_of_nonneg _ (Int.le_of_lt hp), two_pow, Bool.eq_iff_iff, beq_iff_eq, decide_eq_true_eq]
set_option maxHeartbeats 4000000 in
theorem sp_sign (hF : FormIn news Fo F) (ok : F.Ok) (x : Int) (t : Tok) : SpecV w mean mg mb news 98 [.ref Fo, .int x t] 2 (fun t => .int (sg F x) t) := by
  obtain ⟨dx, k1, k2, k3, k4, k5, k6, t1, t2, t3, t4, t5, t6, u1, u2, u3, u4, u5, u6, hm1, hm2⟩ := id hF
  obtain ⟨fe, ff, fh, ft, fp, fl⟩ := facts F ok
  (first | (unfold SpecT; w_on; k_fill; intros; refine wpAny_call ?_; k_dflt ((first | ((refine' code_def ?k1 ?k2 ?k3 ?k4 ?k5 ?kA ?kF ?kK ?k6 ?k7 ?k8 ?k9 ?kB ?_ ?c2 ?c3 ?c4 ?c5; (case kA => exact rfl); (case kF => exact rfl); (case kK => assumption); (case k1 => k_asm); (case k2 => k_asm); (case k3 => k_asm); (case k4 => k_asm); (case k5 => k_asm); (case k6 => k_is); (case k7 => k_is); (case k8 => ktr_room); (case k9 => first | exact BindsTo.of_eq rfl | exact binds_K (by k_in) rfl (by k_is) rfl rfl rfl); (case c5 => decide); (case kB => exact locs rfl); (case c2 => exact rfl); (case c3 => exact rfl); (case c4 => exact rfl); k_whole; intro g' L' h' FG' F' N' B' X' T'; (try dsimp only); (try k_lift B'); (try k_fold))) | cell_enter)); k_steps) | (unfold SpecV; w_on; k_fill; intros; refine wpAny_call ?_; k_dflt ((first | ((refine' code_def ?k1 ?k2 ?k3 ?k4 ?k5 ?kA ?kF ?kK ?k6 ?k7 ?k8 ?k9 ?kB ?_ ?c2 ?c3 ?c4 ?c5; (case kA => exact rfl); (case kF => exact rfl); (case kK => assumption); (case k1 => k_asm); (case k2 => k_asm); (case k3 => k_asm); (case k4 => k_asm); (case k5 => k_asm); (case k6 => k_is); (case k7 => k_is); (case k8 => ktr_room); (case k9 => first | exact BindsTo.of_eq rfl | exact binds_K (by k_in) rfl (by k_is) rfl rfl rfl); (case c5 => decide); (case kB => exact locs rfl); (case c2 => exact rfl); (case c3 => exact rfl); (case c4 => exact rfl); k_whole; intro g' L' h' FG' F' N' B' X' T'; (try dsimp only); (try k_lift B'); (try k_fold))) | cell_enter)); k_steps))
  all_goals (first | (refine' SpecV.finI (by assumption) (by assumption) (by assumption) (by walk_at "mine:sub") ?_) | (refine' SpecV.finB (by assumption) (by assumption) (by assumption) (by walk_at "mine:sub") ?_) | (refine' SpecV.finN (by assumption) (by assumption) (by assumption) (by walk_at "mine:sub")) | (refine' SpecT.fin (by assumption) (by assumption) (by assumption) (by walk_at "mine:sub") ?_ ?_ ?_) | (exfalso; omega))
  rfl
set_option maxHeartbeats 4000000 in
theorem sp_unpack (hF : FormIn news Fo F) (ok : F.Ok) (x : Int) (t : Tok) : SpecT w mean mg mb news 105 [.ref Fo, .int x t] 2 (sg F x) (mant F x) (expo F x) := by
  obtain ⟨dx, k1, k2, k3, k4, k5, k6, t1, t2, t3, t4, t5, t6, u1, u2, u3, u4, u5, u6, hm1, hm2⟩ := id hF
  obtain ⟨fe, ff, fh, ft, fp, fl⟩ := facts F ok
  (first | (unfold SpecT; w_on; k_fill; intros; refine wpAny_call ?_; k_dflt ((first | ((refine' code_def ?k1 ?k2 ?k3 ?k4 ?k5 ?kA ?kF ?kK ?k6 ?k7 ?k8 ?k9 ?kB ?_ ?c2 ?c3 ?c4 ?c5; (case kA => exact rfl); (case kF => exact rfl); (case kK => assumption); (case k1 => k_asm); (case k2 => k_asm); (case k3 => k_asm); (case k4 => k_asm); (case k5 => k_asm); (case k6 => k_is); (case k7 => k_is); (case k8 => ktr_room); (case k9 => first | exact BindsTo.of_eq rfl | exact binds_K (by k_in) rfl (by k_is) rfl rfl rfl); (case c5 => decide); (case kB => exact locs rfl); (case c2 => exact rfl); (case c3 => exact rfl); (case c4 => exact rfl); k_whole; intro g' L' h' FG' F' N' B' X' T'; (try dsimp only); (try k_lift B'); (try k_fold))) | cell_enter)); k_steps) | (unfold SpecV; w_on; k_fill; intros; refine wpAny_call ?_; k_dflt ((first | ((refine' code_def ?k1 ?k2 ?k3 ?k4 ?k5 ?kA ?kF ?kK ?k6 ?k7 ?k8 ?k9 ?kB ?_ ?c2 ?c3 ?c4 ?c5; (case kA => exact rfl); (case kF => exact rfl); (case kK => assumption); (case k1 => k_asm); (case k2 => k_asm); (case k3 => k_asm); (case k4 => k_asm); (case k5 => k_asm); (case k6 => k_is); (case k7 => k_is); (case k8 => ktr_room); (case k9 => first | exact BindsTo.of_eq rfl | exact binds_K (by k_in) rfl (by k_is) rfl rfl rfl); (case c5 => decide); (case kB => exact locs rfl); (case c2 => exact rfl); (case c3 => exact rfl); (case c4 => exact rfl); k_whole; intro g' L' h' FG' F' N' B' X' T'; (try dsimp only); (try k_lift B'); (try k_fold))) | cell_enter)); k_steps))
  all_goals (first | (refine' SpecV.finI (by assumption) (by assumption) (by assumption) (by walk_at "mine:sub") ?_) | (refine' SpecV.finB (by assumption) (by assumption) (by assumption) (by walk_at "mine:sub") ?_) | (refine' SpecV.finN (by assumption) (by assumption) (by assumption) (by walk_at "mine:sub")) | (refine' SpecT.fin (by assumption) (by assumption) (by assumption) (by walk_at "mine:sub") ?_ ?_ ?_) | (exfalso; omega))
  all_goals (first | rfl | (((simp only [decide_eq_true_eq, decide_eq_false_iff_not, beq_iff_eq, bne_iff_ne, beq_eq_false_iff_ne, bne_eq_false_iff_eq, ne_eq, Bool.not_eq_true, Bool.not_eq_false, Bool.not_eq_eq_eq_not, Bool.not_true, Bool.not_false, Bool.and_eq_true, Bool.or_eq_true, Bool.and_eq_false_imp, Bool.or_eq_false_iff, isNan, isInf, isZero, Bool.false_eq_true, false_iff, true_iff] at *)); unfold mant; split <;> omega) | (((simp only [decide_eq_true_eq, decide_eq_false_iff_not, beq_iff_eq, bne_iff_ne, beq_eq_false_iff_ne, bne_eq_false_iff_eq, ne_eq, Bool.not_eq_true, Bool.not_eq_false, Bool.not_eq_eq_eq_not, Bool.not_true, Bool.not_false, Bool.and_eq_true, Bool.or_eq_true, Bool.and_eq_false_imp, Bool.or_eq_false_iff, isNan, isInf, isZero, Bool.false_eq_true, false_iff, true_iff] at *)); unfold expo; split <;> omega))
set_option maxHeartbeats 4000000 in
theorem sp_join (hF : FormIn news Fo F) (ok : F.Ok) {s : Int} (ts : Tok) (e : Int) (te : Tok) (f : Int) (tf : Tok) (hs : 0 ≤ s ∧ s ≤ 1) : SpecV w mean mg mb news 42 [.ref Fo, .int s ts, .int e te, .int f tf] 1 (fun t => .int (join F s e f) t) := by
  obtain ⟨dx, k1, k2, k3, k4, k5, k6, t1, t2, t3, t4, t5, t6, u1, u2, u3, u4, u5, u6, hm1, hm2⟩ := id hF
  obtain ⟨fe, ff, fh, ft, fp, fl⟩ := facts F ok
  (first | (unfold SpecT; w_on; k_fill; intros; refine wpAny_call ?_; k_dflt ((first | ((refine' code_def ?k1 ?k2 ?k3 ?k4 ?k5 ?kA ?kF ?kK ?k6 ?k7 ?k8 ?k9 ?kB ?_ ?c2 ?c3 ?c4 ?c5; (case kA => exact rfl); (case kF => exact rfl); (case kK => assumption); (case k1 => k_asm); (case k2 => k_asm); (case k3 => k_asm); (case k4 => k_asm); (case k5 => k_asm); (case k6 => k_is); (case k7 => k_is); (case k8 => ktr_room); (case k9 => first | exact BindsTo.of_eq rfl | exact binds_K (by k_in) rfl (by k_is) rfl rfl rfl); (case c5 => decide); (case kB => exact locs rfl); (case c2 => exact rfl); (case c3 => exact rfl); (case c4 => exact rfl); k_whole; intro g' L' h' FG' F' N' B' X' T'; (try dsimp only); (try k_lift B'); (try k_fold))) | cell_enter)); k_steps) | (unfold SpecV; w_on; k_fill; intros; refine wpAny_call ?_; k_dflt ((first | ((refine' code_def ?k1 ?k2 ?k3 ?k4 ?k5 ?kA ?kF ?kK ?k6 ?k7 ?k8 ?k9 ?kB ?_ ?c2 ?c3 ?c4 ?c5; (case kA => exact rfl); (case kF => exact rfl); (case kK => assumption); (case k1 => k_asm); (case k2 => k_asm); (case k3 => k_asm); (case k4 => k_asm); (case k5 => k_asm); (case k6 => k_is); (case k7 => k_is); (case k8 => ktr_room); (case k9 => first | exact BindsTo.of_eq rfl | exact binds_K (by k_in) rfl (by k_is) rfl rfl rfl); (case c5 => decide); (case kB => exact locs rfl); (case c2 => exact rfl); (case c3 => exact rfl); (case c4 => exact rfl); k_whole; intro g' L' h' FG' F' N' B' X' T'; (try dsimp only); (try k_lift B'); (try k_fold))) | cell_enter)); k_steps))
  all_goals (first | (refine' SpecV.finI (by assumption) (by assumption) (by assumption) (by walk_at "mine:sub") ?_) | (refine' SpecV.finB (by assumption) (by assumption) (by assumption) (by walk_at "mine:sub") ?_) | (refine' SpecV.finN (by assumption) (by assumption) (by assumption) (by walk_at "mine:sub")) | (refine' SpecT.fin (by assumption) (by assumption) (by assumption) (by walk_at "mine:sub") ?_ ?_ ?_) | (exfalso; omega))
  rw [two_pow]; rfl
theorem wd7 : True := by
  k_with "mine:spec" => (exact sp_join (by walk_at "mine:form") (by assumption) _ _ _ _ _ (by first | assumption | omega))
  trivial
set_option maxHeartbeats 4000000 in
theorem sp_infi (hF : FormIn news Fo F) (ok : F.Ok) {s : Int} (t : Tok) (hs : 0 ≤ s ∧ s ≤ 1) : SpecV w mean mg mb news 56 [.ref Fo, .int s t] 2 (fun t => .int (infi F s) t) := by
  obtain ⟨dx, k1, k2, k3, k4, k5, k6, t1, t2, t3, t4, t5, t6, u1, u2, u3, u4, u5, u6, hm1, hm2⟩ := id hF
  obtain ⟨fe, ff, fh, ft, fp, fl⟩ := facts F ok
  (first | (unfold SpecT; w_on; k_fill; intros; refine wpAny_call ?_; k_dflt ((first | ((refine' code_def ?k1 ?k2 ?k3 ?k4 ?k5 ?kA ?kF ?kK ?k6 ?k7 ?k8 ?k9 ?kB ?_ ?c2 ?c3 ?c4 ?c5; (case kA => exact rfl); (case kF => exact rfl); (case kK => assumption); (case k1 => k_asm); (case k2 => k_asm); (case k3 => k_asm); (case k4 => k_asm); (case k5 => k_asm); (case k6 => k_is); (case k7 => k_is); (case k8 => ktr_room); (case k9 => first | exact BindsTo.of_eq rfl | exact binds_K (by k_in) rfl (by k_is) rfl rfl rfl); (case c5 => decide); (case kB => exact locs rfl); (case c2 => exact rfl); (case c3 => exact rfl); (case c4 => exact rfl); k_whole; intro g' L' h' FG' F' N' B' X' T'; (try dsimp only); (try k_lift B'); (try k_fold))) | cell_enter)); k_steps) | (unfold SpecV; w_on; k_fill; intros; refine wpAny_call ?_; k_dflt ((first | ((refine' code_def ?k1 ?k2 ?k3 ?k4 ?k5 ?kA ?kF ?kK ?k6 ?k7 ?k8 ?k9 ?kB ?_ ?c2 ?c3 ?c4 ?c5; (case kA => exact rfl); (case kF => exact rfl); (case kK => assumption); (case k1 => k_asm); (case k2 => k_asm); (case k3 => k_asm); (case k4 => k_asm); (case k5 => k_asm); (case k6 => k_is); (case k7 => k_is); (case k8 => ktr_room); (case k9 => first | exact BindsTo.of_eq rfl | exact binds_K (by k_in) rfl (by k_is) rfl rfl rfl); (case c5 => decide); (case kB => exact locs rfl); (case c2 => exact rfl); (case c3 => exact rfl); (case c4 => exact rfl); k_whole; intro g' L' h' FG' F' N' B' X' T'; (try dsimp only); (try k_lift B'); (try k_fold))) | cell_enter)); k_steps))
  all_goals (first | (refine' SpecV.finI (by assumption) (by assumption) (by assumption) (by walk_at "mine:sub") ?_) | (refine' SpecV.finB (by assumption) (by assumption) (by assumption) (by walk_at "mine:sub") ?_) | (refine' SpecV.finN (by assumption) (by assumption) (by assumption) (by walk_at "mine:sub")) | (refine' SpecT.fin (by assumption) (by assumption) (by assumption) (by walk_at "mine:sub") ?_ ?_ ?_) | (exfalso; omega))
  rfl
set_option maxHeartbeats 4000000 in
theorem sp_nan0 (hF : FormIn news Fo F) (ok : F.Ok) : SpecV w mean mg mb news 63 [.ref Fo] 2 (fun t => .int (nan F) t) := by
  obtain ⟨dx, k1, k2, k3, k4, k5, k6, t1, t2, t3, t4, t5, t6, u1, u2, u3, u4, u5, u6, hm1, hm2⟩ := id hF
  obtain ⟨fe, ff, fh, ft, fp, fl⟩ := facts F ok
  (first | (unfold SpecT; w_on; k_fill; intros; refine wpAny_call ?_; k_dflt ((first | ((refine' code_def ?k1 ?k2 ?k3 ?k4 ?k5 ?kA ?kF ?kK ?k6 ?k7 ?k8 ?k9 ?kB ?_ ?c2 ?c3 ?c4 ?c5; (case kA => exact rfl); (case kF => exact rfl); (case kK => assumption); (case k1 => k_asm); (case k2 => k_asm); (case k3 => k_asm); (case k4 => k_asm); (case k5 => k_asm); (case k6 => k_is); (case k7 => k_is); (case k8 => ktr_room); (case k9 => first | exact BindsTo.of_eq rfl | exact binds_K (by k_in) rfl (by k_is) rfl rfl rfl); (case c5 => decide); (case kB => exact locs rfl); (case c2 => exact rfl); (case c3 => exact rfl); (case c4 => exact rfl); k_whole; intro g' L' h' FG' F' N' B' X' T'; (try dsimp only); (try k_lift B'); (try k_fold))) | cell_enter)); k_steps) | (unfold SpecV; w_on; k_fill; intros; refine wpAny_call ?_; k_dflt ((first | ((refine' code_def ?k1 ?k2 ?k3 ?k4 ?k5 ?kA ?kF ?kK ?k6 ?k7 ?k8 ?k9 ?kB ?_ ?c2 ?c3 ?c4 ?c5; (case kA => exact rfl); (case kF => exact rfl); (case kK => assumption); (case k1 => k_asm); (case k2 => k_asm); (case k3 => k_asm); (case k4 => k_asm); (case k5 => k_asm); (case k6 => k_is); (case k7 => k_is); (case k8 => ktr_room); (case k9 => first | exact BindsTo.of_eq rfl | exact binds_K (by k_in) rfl (by k_is) rfl rfl rfl); (case c5 => decide); (case kB => exact locs rfl); (case c2 => exact rfl); (case c3 => exact rfl); (case c4 => exact rfl); k_whole; intro g' L' h' FG' F' N' B' X' T'; (try dsimp only); (try k_lift B'); (try k_fold))) | cell_enter)); k_steps))
  all_goals (first | (refine' SpecV.finI (by assumption) (by assumption) (by assumption) (by walk_at "mine:sub") ?_) | (refine' SpecV.finB (by assumption) (by assumption) (by assumption) (by walk_at "mine:sub") ?_) | (refine' SpecV.finN (by assumption) (by assumption) (by assumption) (by walk_at "mine:sub")) | (refine' SpecT.fin (by assumption) (by assumption) (by assumption) (by walk_at "mine:sub") ?_ ?_ ?_) | (exfalso; omega))
  rw [Int.fdiv_eq_ediv_of_nonneg _ (by decide)]; rfl
set_option maxHeartbeats 4000000 in
theorem sp_szero (hF : FormIn news Fo F) (ok : F.Ok) {s : Int} (t : Tok) (hs : 0 ≤ s ∧ s ≤ 1) : SpecV w mean mg mb news 70 [.ref Fo, .int s t] 2 (fun t => .int (zero F s) t) := by
  obtain ⟨dx, k1, k2, k3, k4, k5, k6, t1, t2, t3, t4, t5, t6, u1, u2, u3, u4, u5, u6, hm1, hm2⟩ := id hF
  obtain ⟨fe, ff, fh, ft, fp, fl⟩ := facts F ok
  (first | (unfold SpecT; w_on; k_fill; intros; refine wpAny_call ?_; k_dflt ((first | ((refine' code_def ?k1 ?k2 ?k3 ?k4 ?k5 ?kA ?kF ?kK ?k6 ?k7 ?k8 ?k9 ?kB ?_ ?c2 ?c3 ?c4 ?c5; (case kA => exact rfl); (case kF => exact rfl); (case kK => assumption); (case k1 => k_asm); (case k2 => k_asm); (case k3 => k_asm); (case k4 => k_asm); (case k5 => k_asm); (case k6 => k_is); (case k7 => k_is); (case k8 => ktr_room); (case k9 => first | exact BindsTo.of_eq rfl | exact binds_K (by k_in) rfl (by k_is) rfl rfl rfl); (case c5 => decide); (case kB => exact locs rfl); (case c2 => exact rfl); (case c3 => exact rfl); (case c4 => exact rfl); k_whole; intro g' L' h' FG' F' N' B' X' T'; (try dsimp only); (try k_lift B'); (try k_fold))) | cell_enter)); k_steps) | (unfold SpecV; w_on; k_fill; intros; refine wpAny_call ?_; k_dflt ((first | ((refine' code_def ?k1 ?k2 ?k3 ?k4 ?k5 ?kA ?kF ?kK ?k6 ?k7 ?k8 ?k9 ?kB ?_ ?c2 ?c3 ?c4 ?c5; (case kA => exact rfl); (case kF => exact rfl); (case kK => assumption); (case k1 => k_asm); (case k2 => k_asm); (case k3 => k_asm); (case k4 => k_asm); (case k5 => k_asm); (case k6 => k_is); (case k7 => k_is); (case k8 => ktr_room); (case k9 => first | exact BindsTo.of_eq rfl | exact binds_K (by k_in) rfl (by k_is) rfl rfl rfl); (case c5 => decide); (case kB => exact locs rfl); (case c2 => exact rfl); (case c3 => exact rfl); (case c4 => exact rfl); k_whole; intro g' L' h' FG' F' N' B' X' T'; (try dsimp only); (try k_lift B'); (try k_fold))) | cell_enter)); k_steps))
  all_goals (first | (refine' SpecV.finI (by assumption) (by assumption) (by assumption) (by walk_at "mine:sub") ?_) | (refine' SpecV.finB (by assumption) (by assumption) (by assumption) (by walk_at "mine:sub") ?_) | (refine' SpecV.finN (by assumption) (by assumption) (by assumption) (by walk_at "mine:sub")) | (refine' SpecT.fin (by assumption) (by assumption) (by assumption) (by walk_at "mine:sub") ?_ ?_ ?_) | (exfalso; omega))
  rfl
theorem pow_pos2 (k : Nat) : (0 : Int) < 2 ^ k := kbt_pos k
def Pw (s : Int) : Prop := s = 1 ∨ s = 2 ∨ s = 4 ∨ s = 8 ∨ s = 16 ∨ s = 32 ∨ s = 64
def I2 (m0 m s c : Int) : Prop := 0 ≤ m ∧ 0 ≤ c ∧ m = m0 / 2 ^ c.toNat ∧ (0 < m0 → 0 < m) ∧ (m0 = 0 → c = 0) ∧ 0 ≤ m0 ∧ 0 ≤ s ∧ ((s = 0 ∧ m < 2) ∨ (Pw s ∧ m < 2 ^ (2 * s).toNat))
theorem fdiv_pow (m : Int) (k : Nat) : m.fdiv (2 ^ k) = m / 2 ^ k := Int.fdiv_eq_ediv_of_nonneg _ (Int.le_of_lt (pow_pos2 k))
theorem pos_div {m : Int} {k : Nat} (h : 0 < m.fdiv (2 ^ k)) : 2 ^ k ≤ m := by
  rw [fdiv_pow] at h
  have := (Int.le_ediv_iff_mul_le (pow_pos2 k)).mp (show (1 : Int) ≤ m / 2 ^ k by omega)
  omega
theorem neg_div {m : Int} {k : Nat} (h : ¬ 0 < m.fdiv (2 ^ k)) : m < 2 ^ k := by
  rw [fdiv_pow] at h
  have := (Int.ediv_lt_iff_lt_mul (pow_pos2 k)).mp (show m / 2 ^ k < 1 by omega)
  omega
theorem I1.step {m s : Int} (h : Pw s) (hm : m < 2 ^ 64) (hd : 0 < m.fdiv (2 ^ s.toNat)) : Pw (s * 2) := by
  have h1 := pos_div hd
  unfold Pw at *
  rcases h with rfl | rfl | rfl | rfl | rfl | rfl | rfl
  any_goals omega
  exact absurd h1 (by show ¬ ((2 : Int) ^ 64 ≤ m); omega)
theorem Pw.pos {s : Int} (h : Pw s) : 1 ≤ s ∧ s ≤ 64 := by unfold Pw at h; omega
theorem I2.start {m s : Int} (h : Pw s) (h0 : 0 ≤ m) (hd : ¬ 0 < m.fdiv (2 ^ s.toNat)) : I2 m m s 0 := by
  have h1 := neg_div hd
  have h2 := h.pos
  have h3 : (2 : Int) ^ s.toNat ≤ 2 ^ (2 * s).toNat := by
    have : (2 * s).toNat = s.toNat + s.toNat := by omega
    rw [this, Int.pow_add]
    have := pow_pos2 s.toNat
    have := Int.mul_le_mul_of_nonneg_left (show 1 ≤ (2 : Int) ^ s.toNat by omega) (Int.le_of_lt this)
    omega
  exact ⟨h0, by omega, by simp, id, fun _ => rfl, h0, by omega, .inr ⟨h, by omega⟩⟩
theorem Pw.half {s : Int} (h : Pw s) : (s = 1 ∧ s.fdiv 2 = 0) ∨ (Pw (s.fdiv 2) ∧ 2 * s.fdiv 2 = s) := by
  unfold Pw at *
  rcases h with rfl | rfl | rfl | rfl | rfl | rfl | rfl <;> decide
theorem I2.last {m s : Int} (h : Pw s) (hm : m < 2 ^ s.toNat) : (s.fdiv 2 = 0 ∧ m < 2) ∨ (Pw (s.fdiv 2) ∧ m < 2 ^ (2 * s.fdiv 2).toNat) := by
  rcases h.half with ⟨h1, h2⟩ | ⟨h1, h2⟩
  · subst h1
    exact .inl ⟨h2, hm⟩
  · exact .inr ⟨h1, by rw [h2]; exact hm⟩
theorem I2.stepB {m0 m s c : Int} (h : I2 m0 m s c) (hs : 0 < s) (hd : ¬ 0 < m.fdiv (2 ^ s.toNat)) : I2 m0 m (s.fdiv 2) c := by
  obtain ⟨a, b, e, f, g, i, j, k⟩ := h
  rcases k with ⟨k, _⟩ | ⟨k, _⟩
  · omega
  · exact ⟨a, b, e, f, g, i, by rcases k.half with h | h <;> (try have := h.1.pos) <;> omega, I2.last k (neg_div hd)⟩
theorem I2.stepA {m0 m s c : Int} (h : I2 m0 m s c) (hs : 0 < s) (hd : 0 < m.fdiv (2 ^ s.toNat)) : I2 m0 (m.fdiv (2 ^ s.toNat)) (s.fdiv 2) (c + s) := by
  obtain ⟨a, b, e, f, g, i, j, k⟩ := h
  have hp := pos_div hd
  have hpp := pow_pos2 s.toNat
  rcases k with ⟨k, _⟩ | ⟨k, k2⟩
  · omega
  · refine ⟨by omega, by omega, ?_, fun _ => hd, fun h => ?_, i, by rcases k.half with h | h <;> (try have := h.1.pos) <;> omega, I2.last k ?_⟩
    · rw [fdiv_pow, e, show (c + s).toNat = c.toNat + s.toNat by omega, Int.pow_add, Int.ediv_ediv_of_nonneg (Int.le_of_lt (pow_pos2 _))]
    · rw [h] at e
      simp at e
      omega
    · rw [fdiv_pow]
      refine (Int.ediv_lt_iff_lt_mul hpp).mpr ?_
      rw [show (2 * s).toNat = s.toNat + s.toNat by omega, Int.pow_add] at k2
      exact k2
theorem bitc_of {m0 : Int} {c : Nat} (h1 : 1 ≤ m0 / 2 ^ c) (h2 : m0 / 2 ^ c < 2) : bitc m0 = c + 1 := by
  have hp := pow_pos2 c
  have a := (Int.le_ediv_iff_mul_le hp).mp h1
  have b := (Int.ediv_lt_iff_lt_mul hp).mp h2
  have hm : 0 < m0 := by omega
  unfold bitc
  rw [if_neg (by omega)]
  have hn : m0.toNat ≠ 0 := by omega
  have e : m0.toNat.log2 = c := by
    rw [Nat.log2_eq_iff hn]
    have hc := kbt_cast c
    have hc2 := kbt_cast (c + 1)
    rw [Int.pow_succ] at hc2
    omega
  rw [e]
theorem I1.step' {m s : Int} (h : Pw s) (hm : m < 2 ^ 64) (hd : 0 < m.fdiv (2 ^ s.toNat)) : Pw (s * 2) ∧ 1 ≤ s * 2 ∧ s * 2 ≤ 64 := ⟨I1.step h hm hd, (I1.step h hm hd).pos⟩
theorem I2.stepA' {m0 m s c : Int} (h : I2 m0 m s c) (hs : 0 < s) (hd : 0 < m.fdiv (2 ^ s.toNat)) : I2 m0 (m.fdiv (2 ^ s.toNat)) (s.fdiv 2) (c + s) ∧ 0 ≤ s.fdiv 2 := ⟨I2.stepA h hs hd, (I2.stepA h hs hd).2.2.2.2.2.2.1⟩
theorem I2.stepB' {m0 m s c : Int} (h : I2 m0 m s c) (hs : 0 < s) (hd : ¬ 0 < m.fdiv (2 ^ s.toNat)) : I2 m0 m (s.fdiv 2) c ∧ 0 ≤ s.fdiv 2 := ⟨I2.stepB h hs hd, (I2.stepB h hs hd).2.2.2.2.2.2.1⟩
theorem half_lt {s : Int} (h : 0 < s) : (s.fdiv 2).toNat < s.toNat := by
  rw [Int.fdiv_eq_ediv_of_nonneg _ (by decide)]; omega
theorem dbl_lt {s : Int} (h : Pw (s * 2)) (h1 : 1 ≤ s) : (64 - s * 2).toNat < (64 - s).toNat := by
  have := h.pos; omega
theorem I2.end1 {m0 m s c : Int} (h : I2 m0 m s c) (hs : ¬ 0 < s) (hm : 0 < m) : c + 1 = bitc m0 := by
  obtain ⟨a, b, e, f, g, i, j, k⟩ := h
  rcases k with ⟨k, k2⟩ | ⟨k, k2⟩
  · rw [bitc_of (c := c.toNat) (by omega) (by omega)]
    omega
  · have := k.pos; omega
theorem I2.end2 {m0 m s c : Int} (h : I2 m0 m s c) (hm : ¬ 0 < m) : c + 0 = bitc m0 := by
  obtain ⟨a, b, e, f, g, i, j, k⟩ := h
  have h0 : m0 = 0 := by
    rcases Int.lt_or_eq_of_le i with h | h
    · exact absurd (f h) hm
    · exact h.symm
  rw [g h0, h0]
  rfl
section
local macro_rules | `(tactic| kst_p) => `(tactic| walk_at "mine:kst_p")
theorem wd8 : True := by
  k_with "mine:kst_p" => ((((try dsimp only); first
      | exact ⟨.inl rfl, by decide, by decide⟩
      | exact I1.step' (by assumption) (by assumption) (by assumption)
      | exact ⟨I2.start (by assumption) (by assumption) (by assumption), by omega⟩
      | exact I2.stepA' (by assumption) (by assumption) (by assumption)
      | exact I2.stepB' (by assumption) (by assumption) (by assumption)
      | ((simp only [decide_eq_true_eq, decide_eq_false_iff_not, Bool.and_eq_true, Bool.not_false, and_true] at *); first
      | exact I1.step' (by assumption) (by assumption) (by assumption)
      | exact ⟨I2.start (by assumption) (by assumption) (by assumption), by omega⟩
      | exact I2.stepA' (by assumption) (by assumption) (by assumption)
      | exact I2.stepB' (by assumption) (by assumption) (by assumption)))))
  trivial
local macro_rules | `(tactic| ksw_less) => `(tactic| walk_at "mine:ksw_less")
theorem wd9 : True := by
  k_with "mine:ksw_less" => (((try dsimp only); first
      | exact half_lt (by assumption)
      | exact dbl_lt (I1.step (by assumption) (by assumption) (by assumption)) (by assumption)
      | ((simp only [decide_eq_true_eq, decide_eq_false_iff_not, Bool.and_eq_true, Bool.not_false, and_true] at *); first
      | exact half_lt (by assumption)
      | exact dbl_lt (I1.step (by assumption) (by assumption) (by assumption)) (by assumption))))
  trivial
theorem wd10 : True := by
  k_with "exec While Compare cons nil" => ((first | k_while_given ["m"] (fun m script s => Pw s ∧ 1 ≤ s ∧ s ≤ 64) (fun m script s => (64 - s).toNat) "step" | k_while_given ["m!"] (fun m0 script m s c => I2 m0 m s c ∧ 0 ≤ s) (fun m0 script m s c => s.toNat) "m" "step" "count"))
  trivial
set_option maxHeartbeats 4000000 in
theorem sp_bitc {x : Int} (t : Tok) (h0 : 0 ≤ x) (h1 : x < 2 ^ 64) : SpecV w mean mg mb news 112 [.int x t] 1 (fun t => .int (bitc x) t) := by
  (first | (unfold SpecT; w_on; k_fill; intros; refine wpAny_call ?_; k_dflt ((first | ((refine' code_def ?k1 ?k2 ?k3 ?k4 ?k5 ?kA ?kF ?kK ?k6 ?k7 ?k8 ?k9 ?kB ?_ ?c2 ?c3 ?c4 ?c5; (case kA => exact rfl); (case kF => exact rfl); (case kK => assumption); (case k1 => k_asm); (case k2 => k_asm); (case k3 => k_asm); (case k4 => k_asm); (case k5 => k_asm); (case k6 => k_is); (case k7 => k_is); (case k8 => ktr_room); (case k9 => first | exact BindsTo.of_eq rfl | exact binds_K (by k_in) rfl (by k_is) rfl rfl rfl); (case c5 => decide); (case kB => exact locs rfl); (case c2 => exact rfl); (case c3 => exact rfl); (case c4 => exact rfl); k_whole; intro g' L' h' FG' F' N' B' X' T'; (try dsimp only); (try k_lift B'); (try k_fold))) | cell_enter)); k_steps) | (unfold SpecV; w_on; k_fill; intros; refine wpAny_call ?_; k_dflt ((first | ((refine' code_def ?k1 ?k2 ?k3 ?k4 ?k5 ?kA ?kF ?kK ?k6 ?k7 ?k8 ?k9 ?kB ?_ ?c2 ?c3 ?c4 ?c5; (case kA => exact rfl); (case kF => exact rfl); (case kK => assumption); (case k1 => k_asm); (case k2 => k_asm); (case k3 => k_asm); (case k4 => k_asm); (case k5 => k_asm); (case k6 => k_is); (case k7 => k_is); (case k8 => ktr_room); (case k9 => first | exact BindsTo.of_eq rfl | exact binds_K (by k_in) rfl (by k_is) rfl rfl rfl); (case c5 => decide); (case kB => exact locs rfl); (case c2 => exact rfl); (case c3 => exact rfl); (case c4 => exact rfl); k_whole; intro g' L' h' FG' F' N' B' X' T'; (try dsimp only); (try k_lift B'); (try k_fold))) | cell_enter)); k_steps))
  all_goals (first | (refine' SpecV.finI (by assumption) (by assumption) (by assumption) (by walk_at "mine:sub") ?_) | (refine' SpecV.finB (by assumption) (by assumption) (by assumption) (by walk_at "mine:sub") ?_) | (refine' SpecV.finN (by assumption) (by assumption) (by assumption) (by walk_at "mine:sub")) | (refine' SpecT.fin (by assumption) (by assumption) (by assumption) (by walk_at "mine:sub") ?_ ?_ ?_) | (exfalso; omega))
  all_goals (first | exact I2.end1 (by assumption) (by assumption) (by assumption) | exact I2.end2 (by assumption) (by assumption))
end
theorem fdiv_small {m : Int} {k : Nat} (h0 : 0 ≤ m) (h1 : m < 2 ^ 64) : 0 ≤ m.fdiv (2 ^ k) ∧ m.fdiv (2 ^ k) < 2 ^ 64 := by
  rw [fdiv_pow]
  have := Int.ediv_nonneg h0 (Int.le_of_lt (pow_pos2 k))
  have := Int.ediv_le_self (2 ^ k) h0
  omega
theorem low_eq (m : Int) (k : Nat) : m - m / 2 ^ k * 2 ^ k = m % 2 ^ k := by
  rw [Int.emod_def, Int.mul_comm]
theorem fmod2 (m : Int) : m.fmod 2 = m % 2 := Int.fmod_eq_emod_of_nonneg _ (by decide)
set_option maxHeartbeats 4000000 in
theorem sp_rsh {x k : Int} (t u : Tok) (h0 : 0 ≤ x) (h1 : x < 2 ^ 64) (h2 : -1000 ≤ k ∧ k ≤ 1000) : SpecV w mean mg mb news 119 [.int x t, .int k u, .bool false] 1 (fun t => .int (rsh x k) t) := by
  have hq := fdiv_small (k := k.toNat) h0 h1
  (first | (unfold SpecT; w_on; k_fill; intros; refine wpAny_call ?_; k_dflt ((first | ((refine' code_def ?k1 ?k2 ?k3 ?k4 ?k5 ?kA ?kF ?kK ?k6 ?k7 ?k8 ?k9 ?kB ?_ ?c2 ?c3 ?c4 ?c5; (case kA => exact rfl); (case kF => exact rfl); (case kK => assumption); (case k1 => k_asm); (case k2 => k_asm); (case k3 => k_asm); (case k4 => k_asm); (case k5 => k_asm); (case k6 => k_is); (case k7 => k_is); (case k8 => ktr_room); (case k9 => first | exact BindsTo.of_eq rfl | exact binds_K (by k_in) rfl (by k_is) rfl rfl rfl); (case c5 => decide); (case kB => exact locs rfl); (case c2 => exact rfl); (case c3 => exact rfl); (case c4 => exact rfl); k_whole; intro g' L' h' FG' F' N' B' X' T'; (try dsimp only); (try k_lift B'); (try k_fold))) | cell_enter)); k_steps) | (unfold SpecV; w_on; k_fill; intros; refine wpAny_call ?_; k_dflt ((first | ((refine' code_def ?k1 ?k2 ?k3 ?k4 ?k5 ?kA ?kF ?kK ?k6 ?k7 ?k8 ?k9 ?kB ?_ ?c2 ?c3 ?c4 ?c5; (case kA => exact rfl); (case kF => exact rfl); (case kK => assumption); (case k1 => k_asm); (case k2 => k_asm); (case k3 => k_asm); (case k4 => k_asm); (case k5 => k_asm); (case k6 => k_is); (case k7 => k_is); (case k8 => ktr_room); (case k9 => first | exact BindsTo.of_eq rfl | exact binds_K (by k_in) rfl (by k_is) rfl rfl rfl); (case c5 => decide); (case kB => exact locs rfl); (case c2 => exact rfl); (case c3 => exact rfl); (case c4 => exact rfl); k_whole; intro g' L' h' FG' F' N' B' X' T'; (try dsimp only); (try k_lift B'); (try k_fold))) | cell_enter)); k_steps))
  all_goals (first | (refine' SpecV.finI (by assumption) (by assumption) (by assumption) (by walk_at "mine:sub") ?_) | (refine' SpecV.finB (by assumption) (by assumption) (by assumption) (by walk_at "mine:sub") ?_) | (refine' SpecV.finN (by assumption) (by assumption) (by assumption) (by walk_at "mine:sub")) | (refine' SpecT.fin (by assumption) (by assumption) (by assumption) (by walk_at "mine:sub") ?_ ?_ ?_) | (exfalso; omega))
  all_goals (((simp only [decide_eq_true_eq, decide_eq_false_iff_not, beq_iff_eq, bne_iff_ne, beq_eq_false_iff_ne, bne_eq_false_iff_eq, ne_eq, Bool.not_eq_true, Bool.not_eq_false, Bool.not_eq_eq_eq_not, Bool.not_true, Bool.not_false, Bool.and_eq_true, Bool.or_eq_true, Bool.and_eq_false_imp, Bool.or_eq_false_iff, isNan, isInf, isZero, Bool.false_eq_true, false_iff, true_iff] at *)); (simp only [low_eq, fmod2, Int.one_mul, fdiv_pow] at *); unfold rsh; (repeat' split) <;> first | rfl | omega)
theorem wd11 : True := by
  k_with "mine:spec" => (exact sp_szero (by walk_at "mine:form") (by assumption) _ (by assumption))
  trivial
theorem wd12 : True := by
  k_with "mine:spec" => (exact sp_infi (by walk_at "mine:form") (by assumption) _ (by assumption))
  trivial
theorem wd13 : True := by
  k_with "mine:spec" => (exact sp_bitc _ (by first | assumption | omega) (by first | assumption | omega))
  trivial
theorem wd14 : True := by
  k_with "mine:spec" => (exact sp_rsh _ _ (by first | assumption | omega) (by first | assumption | omega) (by first | assumption | omega))
  trivial
theorem bitc_bound {m : Int} (h : m < 2 ^ 64) : 0 ≤ bitc m ∧ bitc m ≤ 64 := by
  unfold bitc
  split
  · omega
  · have hn : m.toNat ≠ 0 := by omega
    have := (Nat.log2_lt hn).mpr (show m.toNat < 2 ^ 64 by omega)
    omega
theorem pack_0 {s x e : Int} (h : x = 0) : zero F s = pack F s x e := by
  unfold pack
  rw [if_pos h]
theorem pack_1 {s x e : Int} (h : ¬ x = 0) (hk : kept F x e = F.hid * 2 ^ Int.toNat 1) (ht : F.top ≤ place F x e + 1 - F.least + 1) : infi F s = pack F s x e := by
  rw [show F.hid * 2 ^ Int.toNat 1 = F.hid * 2 from rfl] at hk
  unfold pack
  rw [if_neg h, if_pos hk, if_pos ht]
theorem pack_2 {s x e : Int} (h : ¬ x = 0) (hk : kept F x e = F.hid * 2 ^ Int.toNat 1) (ht : ¬ F.top ≤ place F x e + 1 - F.least + 1) : join F s (place F x e + 1 - F.least + 1) (F.hid - F.hid) = pack F s x e := by
  rw [show F.hid * 2 ^ Int.toNat 1 = F.hid * 2 from rfl] at hk
  unfold pack
  rw [if_neg h, if_pos hk, if_neg ht, Int.sub_self]
theorem pack_3 {s x e : Int} (h : ¬ x = 0) (hk : ¬ kept F x e = F.hid * 2 ^ Int.toNat 1) (ht : kept F x e < F.hid) : join F s 0 (kept F x e) = pack F s x e := by
  rw [show F.hid * 2 ^ Int.toNat 1 = F.hid * 2 from rfl] at hk
  unfold pack
  rw [if_neg h, if_neg hk, if_pos ht]
theorem pack_4 {s x e : Int} (h : ¬ x = 0) (hk : ¬ kept F x e = F.hid * 2 ^ Int.toNat 1) (ht : ¬ kept F x e < F.hid) (hi : F.top ≤ place F x e - F.least + 1) : infi F s = pack F s x e := by
  rw [show F.hid * 2 ^ Int.toNat 1 = F.hid * 2 from rfl] at hk
  unfold pack
  rw [if_neg h, if_neg hk, if_neg ht, if_pos hi]
theorem pack_5 {s x e : Int} (h : ¬ x = 0) (hk : ¬ kept F x e = F.hid * 2 ^ Int.toNat 1) (ht : ¬ kept F x e < F.hid) (hi : ¬ F.top ≤ place F x e - F.least + 1) : join F s (place F x e - F.least + 1) (kept F x e - F.hid) = pack F s x e := by
  rw [show F.hid * 2 ^ Int.toNat 1 = F.hid * 2 from rfl] at hk
  unfold pack
  rw [if_neg h, if_neg hk, if_neg ht, if_neg hi]
set_option maxHeartbeats 4000000 in
theorem sp_pack (hF : FormIn news Fo F) (ok : F.Ok) {s x e : Int} (ts t u : Tok) (hs : 0 ≤ s ∧ s ≤ 1) (h0 : 0 ≤ x) (h1 : x < 2 ^ 64) (h2 : -100 ≤ e ∧ e ≤ 100) : SpecV w mean mg mb news 127 [.ref Fo, .int s ts, .int x t, .int e u] 3 (fun t => .int (pack F s x e) t) := by
  obtain ⟨dx, k1, k2, k3, k4, k5, k6, t1, t2, t3, t4, t5, t6, u1, u2, u3, u4, u5, u6, hm1, hm2⟩ := id hF
  obtain ⟨fe, ff, fh, ft, fp, fl⟩ := facts F ok
  have hb := bitc_bound h1
  have hh : F.hid.natAbs < 2 ^ 64 := by omega
  (first | (unfold SpecT; w_on; k_fill; intros; refine wpAny_call ?_; k_dflt ((first | ((refine' code_def ?k1 ?k2 ?k3 ?k4 ?k5 ?kA ?kF ?kK ?k6 ?k7 ?k8 ?k9 ?kB ?_ ?c2 ?c3 ?c4 ?c5; (case kA => exact rfl); (case kF => exact rfl); (case kK => assumption); (case k1 => k_asm); (case k2 => k_asm); (case k3 => k_asm); (case k4 => k_asm); (case k5 => k_asm); (case k6 => k_is); (case k7 => k_is); (case k8 => ktr_room); (case k9 => first | exact BindsTo.of_eq rfl | exact binds_K (by k_in) rfl (by k_is) rfl rfl rfl); (case c5 => decide); (case kB => exact locs rfl); (case c2 => exact rfl); (case c3 => exact rfl); (case c4 => exact rfl); k_whole; intro g' L' h' FG' F' N' B' X' T'; (try dsimp only); (try k_lift B'); (try k_fold))) | cell_enter)); k_steps) | (unfold SpecV; w_on; k_fill; intros; refine wpAny_call ?_; k_dflt ((first | ((refine' code_def ?k1 ?k2 ?k3 ?k4 ?k5 ?kA ?kF ?kK ?k6 ?k7 ?k8 ?k9 ?kB ?_ ?c2 ?c3 ?c4 ?c5; (case kA => exact rfl); (case kF => exact rfl); (case kK => assumption); (case k1 => k_asm); (case k2 => k_asm); (case k3 => k_asm); (case k4 => k_asm); (case k5 => k_asm); (case k6 => k_is); (case k7 => k_is); (case k8 => ktr_room); (case k9 => first | exact BindsTo.of_eq rfl | exact binds_K (by k_in) rfl (by k_is) rfl rfl rfl); (case c5 => decide); (case kB => exact locs rfl); (case c2 => exact rfl); (case c3 => exact rfl); (case c4 => exact rfl); k_whole; intro g' L' h' FG' F' N' B' X' T'; (try dsimp only); (try k_lift B'); (try k_fold))) | cell_enter)); k_steps))
  all_goals (first | (refine' SpecV.finI (by assumption) (by assumption) (by assumption) (by walk_at "mine:sub") ?_) | (refine' SpecV.finB (by assumption) (by assumption) (by assumption) (by walk_at "mine:sub") ?_) | (refine' SpecV.finN (by assumption) (by assumption) (by assumption) (by walk_at "mine:sub")) | (refine' SpecT.fin (by assumption) (by assumption) (by assumption) (by walk_at "mine:sub") ?_ ?_ ?_) | (exfalso; omega))
  all_goals ((simp only [decide_eq_true_eq, decide_eq_false_iff_not, beq_iff_eq, bne_iff_ne, beq_eq_false_iff_ne, bne_eq_false_iff_eq, ne_eq, Bool.not_eq_true, Bool.not_eq_false, Bool.not_eq_eq_eq_not, Bool.not_true, Bool.not_false, Bool.and_eq_true, Bool.or_eq_true, Bool.and_eq_false_imp, Bool.or_eq_false_iff, isNan, isInf, isZero, Bool.false_eq_true, false_iff, true_iff] at *))
  all_goals (first
    | with_reducible exact pack_0 (by assumption)
    | with_reducible exact pack_1 (by assumption) (by assumption) (by assumption)
    | with_reducible exact pack_2 (by assumption) (by assumption) (by assumption)
    | with_reducible exact pack_3 (by assumption) (by assumption) (by assumption)
    | with_reducible exact pack_4 (by assumption) (by assumption) (by assumption) (by assumption)
    | with_reducible exact pack_5 (by assumption) (by assumption) (by assumption) (by assumption))
theorem ex_bound (F : PForm) (ok : F.Ok) (x : Int) : 0 ≤ ex F x ∧ ex F x < F.two := by
  have := (facts F ok).t
  exact ⟨Int.emod_nonneg _ (by omega), Int.emod_lt_of_pos _ (by omega)⟩
theorem fr_bound (F : PForm) (ok : F.Ok) (x : Int) : 0 ≤ fr F x ∧ fr F x < F.hid := by
  have := (facts F ok).h
  exact ⟨Int.emod_nonneg _ (by omega), Int.emod_lt_of_pos _ (by omega)⟩
theorem mant_bound (F : PForm) (ok : F.Ok) (x : Int) : 0 ≤ mant F x ∧ mant F x < 128 := by
  have := (facts F ok).h
  have := fr_bound F ok x
  unfold mant
  split <;> omega
theorem expo_bound (F : PForm) (ok : F.Ok) (x : Int) : F.least ≤ expo F x ∧ expo F x ≤ F.least + 30 := by
  have := (facts F ok).t
  have := ex_bound F ok x
  unfold expo
  split <;> omega
theorem band01 {a b : Int} (ha : 0 ≤ a ∧ a ≤ 1) (hb : 0 ≤ b ∧ b ≤ 1) : Builtin.bitAnd a b = both a b := by
  have h1 : a = 0 ∨ a = 1 := by omega
  have h2 : b = 0 ∨ b = 1 := by omega
  rcases h1 with rfl | rfl <;> rcases h2 with rfl | rfl <;> decide
theorem bxor01 {a b : Int} (ha : 0 ≤ a ∧ a ≤ 1) (hb : 0 ≤ b ∧ b ≤ 1) : Builtin.bitXor a b = differ a b := by
  have h1 : a = 0 ∨ a = 1 := by omega
  have h2 : b = 0 ∨ b = 1 := by omega
  rcases h1 with rfl | rfl <;> rcases h2 with rfl | rfl <;> decide
theorem both01 (a b : Int) : 0 ≤ both a b ∧ both a b ≤ 1 := by unfold both; split <;> omega
theorem differ01 (a b : Int) : 0 ≤ differ a b ∧ differ a b ≤ 1 := by unfold differ; split <;> omega
theorem pow_mono2 {a b : Nat} (h : a ≤ b) : (2 : Int) ^ a ≤ 2 ^ b := by
  have := Nat.pow_le_pow_right (show 0 < 2 by decide) h
  rw [← kbt_cast, ← kbt_cast]
  exact Int.ofNat_le.mpr this
theorem shl_bound {m d : Int} (h0 : 0 ≤ m) (h1 : m < 128) (hd : d ≤ 30) : 0 ≤ m * 2 ^ d.toNat ∧ m * 2 ^ d.toNat < 2 ^ 40 := by
  have h2 := pow_mono2 (show d.toNat ≤ 30 by omega)
  have h3 := pow_pos2 d.toNat
  have h4 := Int.mul_le_mul (show m ≤ 127 by omega) h2 (by omega) (by omega)
  have h5 := Int.mul_nonneg h0 (Int.le_of_lt h3)
  refine ⟨h5, Int.lt_of_le_of_lt h4 (by decide)⟩
theorem wd15 : True := by
  k_with "mine:spec" => (exact sp_nan (by walk_at "mine:form") (by assumption) _ _)
  trivial
theorem wd16 : True := by
  k_with "mine:spec" => (exact sp_inf (by walk_at "mine:form") (by assumption) _ _)
  trivial
theorem wd17 : True := by
  k_with "mine:spec" => (exact sp_zero (by walk_at "mine:form") (by assumption) _ _)
  trivial
theorem wd18 : True := by
  k_with "mine:spec" => (exact sp_sign (by walk_at "mine:form") (by assumption) _ _)
  trivial
theorem wd19 : True := by
  k_with "mine:spec" => (exact sp_unpack (by walk_at "mine:form") (by assumption) _ _)
  trivial
theorem wd20 : True := by
  k_with "mine:spec" => (exact sp_infi (by walk_at "mine:form") (by assumption) _ (by first | assumption | omega))
  trivial
theorem wd21 : True := by
  k_with "mine:spec" => (exact sp_nan0 (by walk_at "mine:form") (by assumption))
  trivial
theorem wd22 : True := by
  k_with "mine:spec" => (exact sp_szero (by walk_at "mine:form") (by assumption) _ (by first | assumption | omega))
  trivial
theorem wd23 : True := by
  k_with "mine:spec" => (exact sp_pack (by walk_at "mine:form") (by assumption) _ _ _ (by first | assumption | omega) (by first | assumption | omega) (by first | assumption | omega) (by first | assumption | omega))
  trivial
set_option maxHeartbeats 4000000 in
theorem sp_neg (hF : FormIn news Fo F) (ok : F.Ok) {x : Int} (t : Tok) (hx : 0 ≤ sg F x ∧ sg F x ≤ 1) : SpecV w mean mg mb news 134 [.ref Fo, .int x t] 3 (fun t => .int (neg F x) t) := by
  obtain ⟨dx, k1, k2, k3, k4, k5, k6, t1, t2, t3, t4, t5, t6, u1, u2, u3, u4, u5, u6, hm1, hm2⟩ := id hF
  obtain ⟨fe, ff, fh, ft, fp, fl⟩ := facts F ok
  (first | (unfold SpecT; w_on; k_fill; intros; refine wpAny_call ?_; k_dflt ((first | ((refine' code_def ?k1 ?k2 ?k3 ?k4 ?k5 ?kA ?kF ?kK ?k6 ?k7 ?k8 ?k9 ?kB ?_ ?c2 ?c3 ?c4 ?c5; (case kA => exact rfl); (case kF => exact rfl); (case kK => assumption); (case k1 => k_asm); (case k2 => k_asm); (case k3 => k_asm); (case k4 => k_asm); (case k5 => k_asm); (case k6 => k_is); (case k7 => k_is); (case k8 => ktr_room); (case k9 => first | exact BindsTo.of_eq rfl | exact binds_K (by k_in) rfl (by k_is) rfl rfl rfl); (case c5 => decide); (case kB => exact locs rfl); (case c2 => exact rfl); (case c3 => exact rfl); (case c4 => exact rfl); k_whole; intro g' L' h' FG' F' N' B' X' T'; (try dsimp only); (try k_lift B'); (try k_fold))) | cell_enter)); k_steps) | (unfold SpecV; w_on; k_fill; intros; refine wpAny_call ?_; k_dflt ((first | ((refine' code_def ?k1 ?k2 ?k3 ?k4 ?k5 ?kA ?kF ?kK ?k6 ?k7 ?k8 ?k9 ?kB ?_ ?c2 ?c3 ?c4 ?c5; (case kA => exact rfl); (case kF => exact rfl); (case kK => assumption); (case k1 => k_asm); (case k2 => k_asm); (case k3 => k_asm); (case k4 => k_asm); (case k5 => k_asm); (case k6 => k_is); (case k7 => k_is); (case k8 => ktr_room); (case k9 => first | exact BindsTo.of_eq rfl | exact binds_K (by k_in) rfl (by k_is) rfl rfl rfl); (case c5 => decide); (case kB => exact locs rfl); (case c2 => exact rfl); (case c3 => exact rfl); (case c4 => exact rfl); k_whole; intro g' L' h' FG' F' N' B' X' T'; (try dsimp only); (try k_lift B'); (try k_fold))) | cell_enter)); k_steps))
  all_goals (first | (refine' SpecV.finI (by assumption) (by assumption) (by assumption) (by walk_at "mine:sub") ?_) | (refine' SpecV.finB (by assumption) (by assumption) (by assumption) (by walk_at "mine:sub") ?_) | (refine' SpecV.finN (by assumption) (by assumption) (by assumption) (by walk_at "mine:sub")) | (refine' SpecT.fin (by assumption) (by assumption) (by assumption) (by walk_at "mine:sub") ?_ ?_ ?_) | (exfalso; omega))
  all_goals (((simp only [decide_eq_true_eq, decide_eq_false_iff_not, beq_iff_eq, bne_iff_ne, beq_eq_false_iff_ne, bne_eq_false_iff_eq, ne_eq, Bool.not_eq_true, Bool.not_eq_false, Bool.not_eq_eq_eq_not, Bool.not_true, Bool.not_false, Bool.and_eq_true, Bool.or_eq_true, Bool.and_eq_false_imp, Bool.or_eq_false_iff, isNan, isInf, isZero, Bool.false_eq_true, false_iff, true_iff] at *)); unfold neg; first | rw [if_pos (by assumption)] | rw [if_neg (by omega)])
set_option maxHeartbeats 4000000 in
theorem sp_abs (hF : FormIn news Fo F) (ok : F.Ok) {x : Int} (t : Tok) : SpecV w mean mg mb news 141 [.ref Fo, .int x t] 3 (fun t => .int (absr F x) t) := by
  obtain ⟨dx, k1, k2, k3, k4, k5, k6, t1, t2, t3, t4, t5, t6, u1, u2, u3, u4, u5, u6, hm1, hm2⟩ := id hF
  obtain ⟨fe, ff, fh, ft, fp, fl⟩ := facts F ok
  (first | (unfold SpecT; w_on; k_fill; intros; refine wpAny_call ?_; k_dflt ((first | ((refine' code_def ?k1 ?k2 ?k3 ?k4 ?k5 ?kA ?kF ?kK ?k6 ?k7 ?k8 ?k9 ?kB ?_ ?c2 ?c3 ?c4 ?c5; (case kA => exact rfl); (case kF => exact rfl); (case kK => assumption); (case k1 => k_asm); (case k2 => k_asm); (case k3 => k_asm); (case k4 => k_asm); (case k5 => k_asm); (case k6 => k_is); (case k7 => k_is); (case k8 => ktr_room); (case k9 => first | exact BindsTo.of_eq rfl | exact binds_K (by k_in) rfl (by k_is) rfl rfl rfl); (case c5 => decide); (case kB => exact locs rfl); (case c2 => exact rfl); (case c3 => exact rfl); (case c4 => exact rfl); k_whole; intro g' L' h' FG' F' N' B' X' T'; (try dsimp only); (try k_lift B'); (try k_fold))) | cell_enter)); k_steps) | (unfold SpecV; w_on; k_fill; intros; refine wpAny_call ?_; k_dflt ((first | ((refine' code_def ?k1 ?k2 ?k3 ?k4 ?k5 ?kA ?kF ?kK ?k6 ?k7 ?k8 ?k9 ?kB ?_ ?c2 ?c3 ?c4 ?c5; (case kA => exact rfl); (case kF => exact rfl); (case kK => assumption); (case k1 => k_asm); (case k2 => k_asm); (case k3 => k_asm); (case k4 => k_asm); (case k5 => k_asm); (case k6 => k_is); (case k7 => k_is); (case k8 => ktr_room); (case k9 => first | exact BindsTo.of_eq rfl | exact binds_K (by k_in) rfl (by k_is) rfl rfl rfl); (case c5 => decide); (case kB => exact locs rfl); (case c2 => exact rfl); (case c3 => exact rfl); (case c4 => exact rfl); k_whole; intro g' L' h' FG' F' N' B' X' T'; (try dsimp only); (try k_lift B'); (try k_fold))) | cell_enter)); k_steps))
  all_goals (first | (refine' SpecV.finI (by assumption) (by assumption) (by assumption) (by walk_at "mine:sub") ?_) | (refine' SpecV.finB (by assumption) (by assumption) (by assumption) (by walk_at "mine:sub") ?_) | (refine' SpecV.finN (by assumption) (by assumption) (by assumption) (by walk_at "mine:sub")) | (refine' SpecT.fin (by assumption) (by assumption) (by assumption) (by walk_at "mine:sub") ?_ ?_ ?_) | (exfalso; omega))
  all_goals (((simp only [decide_eq_true_eq, decide_eq_false_iff_not, beq_iff_eq, bne_iff_ne, beq_eq_false_iff_ne, bne_eq_false_iff_eq, ne_eq, Bool.not_eq_true, Bool.not_eq_false, Bool.not_eq_eq_eq_not, Bool.not_true, Bool.not_false, Bool.and_eq_true, Bool.or_eq_true, Bool.and_eq_false_imp, Bool.or_eq_false_iff, isNan, isInf, isZero, Bool.false_eq_true, false_iff, true_iff] at *)); unfold absr; first | rw [if_pos (by assumption)] | rw [if_neg (by omega)])
set_option maxHeartbeats 4000000 in
theorem sp_ord (hF : FormIn news Fo F) (ok : F.Ok) {x : Int} (t : Tok) : SpecV w mean mg mb news 183 [.ref Fo, .int x t] 2 (fun t => .int (ord F x) t) := by
  obtain ⟨dx, k1, k2, k3, k4, k5, k6, t1, t2, t3, t4, t5, t6, u1, u2, u3, u4, u5, u6, hm1, hm2⟩ := id hF
  obtain ⟨fe, ff, fh, ft, fp, fl⟩ := facts F ok
  have h1 := ex_bound F ok x
  (first | (unfold SpecT; w_on; k_fill; intros; refine wpAny_call ?_; k_dflt ((first | ((refine' code_def ?k1 ?k2 ?k3 ?k4 ?k5 ?kA ?kF ?kK ?k6 ?k7 ?k8 ?k9 ?kB ?_ ?c2 ?c3 ?c4 ?c5; (case kA => exact rfl); (case kF => exact rfl); (case kK => assumption); (case k1 => k_asm); (case k2 => k_asm); (case k3 => k_asm); (case k4 => k_asm); (case k5 => k_asm); (case k6 => k_is); (case k7 => k_is); (case k8 => ktr_room); (case k9 => first | exact BindsTo.of_eq rfl | exact binds_K (by k_in) rfl (by k_is) rfl rfl rfl); (case c5 => decide); (case kB => exact locs rfl); (case c2 => exact rfl); (case c3 => exact rfl); (case c4 => exact rfl); k_whole; intro g' L' h' FG' F' N' B' X' T'; (try dsimp only); (try k_lift B'); (try k_fold))) | cell_enter)); k_steps) | (unfold SpecV; w_on; k_fill; intros; refine wpAny_call ?_; k_dflt ((first | ((refine' code_def ?k1 ?k2 ?k3 ?k4 ?k5 ?kA ?kF ?kK ?k6 ?k7 ?k8 ?k9 ?kB ?_ ?c2 ?c3 ?c4 ?c5; (case kA => exact rfl); (case kF => exact rfl); (case kK => assumption); (case k1 => k_asm); (case k2 => k_asm); (case k3 => k_asm); (case k4 => k_asm); (case k5 => k_asm); (case k6 => k_is); (case k7 => k_is); (case k8 => ktr_room); (case k9 => first | exact BindsTo.of_eq rfl | exact binds_K (by k_in) rfl (by k_is) rfl rfl rfl); (case c5 => decide); (case kB => exact locs rfl); (case c2 => exact rfl); (case c3 => exact rfl); (case c4 => exact rfl); k_whole; intro g' L' h' FG' F' N' B' X' T'; (try dsimp only); (try k_lift B'); (try k_fold))) | cell_enter)); k_steps))
  all_goals (first | (refine' SpecV.finI (by assumption) (by assumption) (by assumption) (by walk_at "mine:sub") ?_) | (refine' SpecV.finB (by assumption) (by assumption) (by assumption) (by walk_at "mine:sub") ?_) | (refine' SpecV.finN (by assumption) (by assumption) (by assumption) (by walk_at "mine:sub")) | (refine' SpecT.fin (by assumption) (by assumption) (by assumption) (by walk_at "mine:sub") ?_ ?_ ?_) | (exfalso; omega))
  all_goals (((simp only [decide_eq_true_eq, decide_eq_false_iff_not, beq_iff_eq, bne_iff_ne, beq_eq_false_iff_ne, bne_eq_false_iff_eq, ne_eq, Bool.not_eq_true, Bool.not_eq_false, Bool.not_eq_eq_eq_not, Bool.not_true, Bool.not_false, Bool.and_eq_true, Bool.or_eq_true, Bool.and_eq_false_imp, Bool.or_eq_false_iff, isNan, isInf, isZero, Bool.false_eq_true, false_iff, true_iff] at *)); unfold ord signed; first | rw [if_pos (by assumption)] | rw [if_neg (by omega)])
theorem wd24 : True := by
  k_with "mine:spec" => (exact sp_neg (by walk_at "mine:form") (by assumption) _ (by first | assumption | omega))
  trivial
theorem wd25 : True := by
  k_with "mine:spec" => (exact sp_ord (by walk_at "mine:form") (by assumption) _)
  trivial
set_option maxHeartbeats 4000000 in
theorem sp_cmp (hF : FormIn news Fo F) (ok : F.Ok) {x y : Int} (t u : Tok) (hn : ¬ (isNan F x ∨ isNan F y)) : SpecV w mean mg mb news 176 [.ref Fo, .int x t, .int y u] 3 (fun t => .int (cmpOf F x y) t) := by
  obtain ⟨dx, k1, k2, k3, k4, k5, k6, t1, t2, t3, t4, t5, t6, u1, u2, u3, u4, u5, u6, hm1, hm2⟩ := id hF
  obtain ⟨fe, ff, fh, ft, fp, fl⟩ := facts F ok
  (first | (unfold SpecT; w_on; k_fill; intros; refine wpAny_call ?_; k_dflt ((first | ((refine' code_def ?k1 ?k2 ?k3 ?k4 ?k5 ?kA ?kF ?kK ?k6 ?k7 ?k8 ?k9 ?kB ?_ ?c2 ?c3 ?c4 ?c5; (case kA => exact rfl); (case kF => exact rfl); (case kK => assumption); (case k1 => k_asm); (case k2 => k_asm); (case k3 => k_asm); (case k4 => k_asm); (case k5 => k_asm); (case k6 => k_is); (case k7 => k_is); (case k8 => ktr_room); (case k9 => first | exact BindsTo.of_eq rfl | exact binds_K (by k_in) rfl (by k_is) rfl rfl rfl); (case c5 => decide); (case kB => exact locs rfl); (case c2 => exact rfl); (case c3 => exact rfl); (case c4 => exact rfl); k_whole; intro g' L' h' FG' F' N' B' X' T'; (try dsimp only); (try k_lift B'); (try k_fold))) | cell_enter)); k_steps) | (unfold SpecV; w_on; k_fill; intros; refine wpAny_call ?_; k_dflt ((first | ((refine' code_def ?k1 ?k2 ?k3 ?k4 ?k5 ?kA ?kF ?kK ?k6 ?k7 ?k8 ?k9 ?kB ?_ ?c2 ?c3 ?c4 ?c5; (case kA => exact rfl); (case kF => exact rfl); (case kK => assumption); (case k1 => k_asm); (case k2 => k_asm); (case k3 => k_asm); (case k4 => k_asm); (case k5 => k_asm); (case k6 => k_is); (case k7 => k_is); (case k8 => ktr_room); (case k9 => first | exact BindsTo.of_eq rfl | exact binds_K (by k_in) rfl (by k_is) rfl rfl rfl); (case c5 => decide); (case kB => exact locs rfl); (case c2 => exact rfl); (case c3 => exact rfl); (case c4 => exact rfl); k_whole; intro g' L' h' FG' F' N' B' X' T'; (try dsimp only); (try k_lift B'); (try k_fold))) | cell_enter)); k_steps))
  all_goals (try (first | (refine' SpecV.finI (by assumption) (by assumption) (by assumption) (by walk_at "mine:sub") ?_) | (refine' SpecV.finB (by assumption) (by assumption) (by assumption) (by walk_at "mine:sub") ?_) | (refine' SpecV.finN (by assumption) (by assumption) (by assumption) (by walk_at "mine:sub")) | (refine' SpecT.fin (by assumption) (by assumption) (by assumption) (by walk_at "mine:sub") ?_ ?_ ?_) | (exfalso; omega)))
  all_goals (((simp only [decide_eq_true_eq, decide_eq_false_iff_not, beq_iff_eq, bne_iff_ne, beq_eq_false_iff_ne, bne_eq_false_iff_eq, ne_eq, Bool.not_eq_true, Bool.not_eq_false, Bool.not_eq_eq_eq_not, Bool.not_true, Bool.not_false, Bool.and_eq_true, Bool.or_eq_true, Bool.and_eq_false_imp, Bool.or_eq_false_iff, isNan, isInf, isZero, Bool.false_eq_true, false_iff, true_iff] at *)); first | (exfalso; omega) | (unfold cmpOf; (repeat' split) <;> first | rfl | omega))
set_option maxHeartbeats 4000000 in
theorem sp_cmpN (hF : FormIn news Fo F) (ok : F.Ok) {x y : Int} (t u : Tok) (hn : isNan F x ∨ isNan F y) : SpecV w mean mg mb news 176 [.ref Fo, .int x t, .int y u] 3 (fun _ => .none) := by
  obtain ⟨dx, k1, k2, k3, k4, k5, k6, t1, t2, t3, t4, t5, t6, u1, u2, u3, u4, u5, u6, hm1, hm2⟩ := id hF
  obtain ⟨fe, ff, fh, ft, fp, fl⟩ := facts F ok
  (first | (unfold SpecT; w_on; k_fill; intros; refine wpAny_call ?_; k_dflt ((first | ((refine' code_def ?k1 ?k2 ?k3 ?k4 ?k5 ?kA ?kF ?kK ?k6 ?k7 ?k8 ?k9 ?kB ?_ ?c2 ?c3 ?c4 ?c5; (case kA => exact rfl); (case kF => exact rfl); (case kK => assumption); (case k1 => k_asm); (case k2 => k_asm); (case k3 => k_asm); (case k4 => k_asm); (case k5 => k_asm); (case k6 => k_is); (case k7 => k_is); (case k8 => ktr_room); (case k9 => first | exact BindsTo.of_eq rfl | exact binds_K (by k_in) rfl (by k_is) rfl rfl rfl); (case c5 => decide); (case kB => exact locs rfl); (case c2 => exact rfl); (case c3 => exact rfl); (case c4 => exact rfl); k_whole; intro g' L' h' FG' F' N' B' X' T'; (try dsimp only); (try k_lift B'); (try k_fold))) | cell_enter)); k_steps) | (unfold SpecV; w_on; k_fill; intros; refine wpAny_call ?_; k_dflt ((first | ((refine' code_def ?k1 ?k2 ?k3 ?k4 ?k5 ?kA ?kF ?kK ?k6 ?k7 ?k8 ?k9 ?kB ?_ ?c2 ?c3 ?c4 ?c5; (case kA => exact rfl); (case kF => exact rfl); (case kK => assumption); (case k1 => k_asm); (case k2 => k_asm); (case k3 => k_asm); (case k4 => k_asm); (case k5 => k_asm); (case k6 => k_is); (case k7 => k_is); (case k8 => ktr_room); (case k9 => first | exact BindsTo.of_eq rfl | exact binds_K (by k_in) rfl (by k_is) rfl rfl rfl); (case c5 => decide); (case kB => exact locs rfl); (case c2 => exact rfl); (case c3 => exact rfl); (case c4 => exact rfl); k_whole; intro g' L' h' FG' F' N' B' X' T'; (try dsimp only); (try k_lift B'); (try k_fold))) | cell_enter)); k_steps))
  all_goals (try (first | (refine' SpecV.finI (by assumption) (by assumption) (by assumption) (by walk_at "mine:sub") ?_) | (refine' SpecV.finB (by assumption) (by assumption) (by assumption) (by walk_at "mine:sub") ?_) | (refine' SpecV.finN (by assumption) (by assumption) (by assumption) (by walk_at "mine:sub")) | (refine' SpecT.fin (by assumption) (by assumption) (by assumption) (by walk_at "mine:sub") ?_ ?_ ?_) | (exfalso; omega)))
  all_goals (((simp only [decide_eq_true_eq, decide_eq_false_iff_not, beq_iff_eq, bne_iff_ne, beq_eq_false_iff_ne, bne_eq_false_iff_eq, ne_eq, Bool.not_eq_true, Bool.not_eq_false, Bool.not_eq_eq_eq_not, Bool.not_true, Bool.not_false, Bool.and_eq_true, Bool.or_eq_true, Bool.and_eq_false_imp, Bool.or_eq_false_iff, isNan, isInf, isZero, Bool.false_eq_true, false_iff, true_iff] at *)); (exfalso; omega))
set_option maxHeartbeats 4000000 in
theorem sp_floor (hF : FormIn news Fo F) (ok : F.Ok) {x : Int} (t : Tok) (hn : ¬ (isInf F x ∨ isNan F x)) : SpecV w mean mg mb news 197 [.ref Fo, .int x t] 3 (fun t => .int (floorOf F x) t) := by
  obtain ⟨dx, k1, k2, k3, k4, k5, k6, t1, t2, t3, t4, t5, t6, u1, u2, u3, u4, u5, u6, hm1, hm2⟩ := id hF
  obtain ⟨fe, ff, fh, ft, fp, fl⟩ := facts F ok
  have h1 := mant_bound F ok x
  have h2 := expo_bound F ok x
  (first | (unfold SpecT; w_on; k_fill; intros; refine wpAny_call ?_; k_dflt ((first | ((refine' code_def ?k1 ?k2 ?k3 ?k4 ?k5 ?kA ?kF ?kK ?k6 ?k7 ?k8 ?k9 ?kB ?_ ?c2 ?c3 ?c4 ?c5; (case kA => exact rfl); (case kF => exact rfl); (case kK => assumption); (case k1 => k_asm); (case k2 => k_asm); (case k3 => k_asm); (case k4 => k_asm); (case k5 => k_asm); (case k6 => k_is); (case k7 => k_is); (case k8 => ktr_room); (case k9 => first | exact BindsTo.of_eq rfl | exact binds_K (by k_in) rfl (by k_is) rfl rfl rfl); (case c5 => decide); (case kB => exact locs rfl); (case c2 => exact rfl); (case c3 => exact rfl); (case c4 => exact rfl); k_whole; intro g' L' h' FG' F' N' B' X' T'; (try dsimp only); (try k_lift B'); (try k_fold))) | cell_enter)); k_steps) | (unfold SpecV; w_on; k_fill; intros; refine wpAny_call ?_; k_dflt ((first | ((refine' code_def ?k1 ?k2 ?k3 ?k4 ?k5 ?kA ?kF ?kK ?k6 ?k7 ?k8 ?k9 ?kB ?_ ?c2 ?c3 ?c4 ?c5; (case kA => exact rfl); (case kF => exact rfl); (case kK => assumption); (case k1 => k_asm); (case k2 => k_asm); (case k3 => k_asm); (case k4 => k_asm); (case k5 => k_asm); (case k6 => k_is); (case k7 => k_is); (case k8 => ktr_room); (case k9 => first | exact BindsTo.of_eq rfl | exact binds_K (by k_in) rfl (by k_is) rfl rfl rfl); (case c5 => decide); (case kB => exact locs rfl); (case c2 => exact rfl); (case c3 => exact rfl); (case c4 => exact rfl); k_whole; intro g' L' h' FG' F' N' B' X' T'; (try dsimp only); (try k_lift B'); (try k_fold))) | cell_enter)); k_steps))
  all_goals (first | (refine' SpecV.finI (by assumption) (by assumption) (by assumption) (by walk_at "mine:sub") ?_) | (refine' SpecV.finB (by assumption) (by assumption) (by assumption) (by walk_at "mine:sub") ?_) | (refine' SpecV.finN (by assumption) (by assumption) (by assumption) (by walk_at "mine:sub")) | (refine' SpecT.fin (by assumption) (by assumption) (by assumption) (by walk_at "mine:sub") ?_ ?_ ?_) | (exfalso; omega))
  all_goals (((simp only [decide_eq_true_eq, decide_eq_false_iff_not, beq_iff_eq, bne_iff_ne, beq_eq_false_iff_ne, bne_eq_false_iff_eq, ne_eq, Bool.not_eq_true, Bool.not_eq_false, Bool.not_eq_eq_eq_not, Bool.not_true, Bool.not_false, Bool.and_eq_true, Bool.or_eq_true, Bool.and_eq_false_imp, Bool.or_eq_false_iff, isNan, isInf, isZero, Bool.false_eq_true, false_iff, true_iff] at *)); (try rw [fdiv_pow]); unfold floorOf signed; (repeat' split) <;> first | rfl | omega)
set_option maxHeartbeats 4000000 in
theorem sp_floorN (hF : FormIn news Fo F) (ok : F.Ok) {x : Int} (t : Tok) (hn : isInf F x ∨ isNan F x) : SpecV w mean mg mb news 197 [.ref Fo, .int x t] 3 (fun _ => .none) := by
  obtain ⟨dx, k1, k2, k3, k4, k5, k6, t1, t2, t3, t4, t5, t6, u1, u2, u3, u4, u5, u6, hm1, hm2⟩ := id hF
  obtain ⟨fe, ff, fh, ft, fp, fl⟩ := facts F ok
  (first | (unfold SpecT; w_on; k_fill; intros; refine wpAny_call ?_; k_dflt ((first | ((refine' code_def ?k1 ?k2 ?k3 ?k4 ?k5 ?kA ?kF ?kK ?k6 ?k7 ?k8 ?k9 ?kB ?_ ?c2 ?c3 ?c4 ?c5; (case kA => exact rfl); (case kF => exact rfl); (case kK => assumption); (case k1 => k_asm); (case k2 => k_asm); (case k3 => k_asm); (case k4 => k_asm); (case k5 => k_asm); (case k6 => k_is); (case k7 => k_is); (case k8 => ktr_room); (case k9 => first | exact BindsTo.of_eq rfl | exact binds_K (by k_in) rfl (by k_is) rfl rfl rfl); (case c5 => decide); (case kB => exact locs rfl); (case c2 => exact rfl); (case c3 => exact rfl); (case c4 => exact rfl); k_whole; intro g' L' h' FG' F' N' B' X' T'; (try dsimp only); (try k_lift B'); (try k_fold))) | cell_enter)); k_steps) | (unfold SpecV; w_on; k_fill; intros; refine wpAny_call ?_; k_dflt ((first | ((refine' code_def ?k1 ?k2 ?k3 ?k4 ?k5 ?kA ?kF ?kK ?k6 ?k7 ?k8 ?k9 ?kB ?_ ?c2 ?c3 ?c4 ?c5; (case kA => exact rfl); (case kF => exact rfl); (case kK => assumption); (case k1 => k_asm); (case k2 => k_asm); (case k3 => k_asm); (case k4 => k_asm); (case k5 => k_asm); (case k6 => k_is); (case k7 => k_is); (case k8 => ktr_room); (case k9 => first | exact BindsTo.of_eq rfl | exact binds_K (by k_in) rfl (by k_is) rfl rfl rfl); (case c5 => decide); (case kB => exact locs rfl); (case c2 => exact rfl); (case c3 => exact rfl); (case c4 => exact rfl); k_whole; intro g' L' h' FG' F' N' B' X' T'; (try dsimp only); (try k_lift B'); (try k_fold))) | cell_enter)); k_steps))
  all_goals (try (first | (refine' SpecV.finI (by assumption) (by assumption) (by assumption) (by walk_at "mine:sub") ?_) | (refine' SpecV.finB (by assumption) (by assumption) (by assumption) (by walk_at "mine:sub") ?_) | (refine' SpecV.finN (by assumption) (by assumption) (by assumption) (by walk_at "mine:sub")) | (refine' SpecT.fin (by assumption) (by assumption) (by assumption) (by walk_at "mine:sub") ?_ ?_ ?_) | (exfalso; omega)))
  all_goals (((simp only [decide_eq_true_eq, decide_eq_false_iff_not, beq_iff_eq, bne_iff_ne, beq_eq_false_iff_ne, bne_eq_false_iff_eq, ne_eq, Bool.not_eq_true, Bool.not_eq_false, Bool.not_eq_eq_eq_not, Bool.not_true, Bool.not_false, Bool.and_eq_true, Bool.or_eq_true, Bool.and_eq_false_imp, Bool.or_eq_false_iff, isNan, isInf, isZero, Bool.false_eq_true, false_iff, true_iff] at *)); (exfalso; omega))
set_option maxHeartbeats 4000000 in
theorem sp_fromi (hF : FormIn news Fo F) (ok : F.Ok) (t : Tok) : SpecV w mean mg mb news 190 [.ref Fo, .int 2 t] 4 (fun t => .int (fromInt F 2) t) := by
  obtain ⟨dx, k1, k2, k3, k4, k5, k6, t1, t2, t3, t4, t5, t6, u1, u2, u3, u4, u5, u6, hm1, hm2⟩ := id hF
  obtain ⟨fe, ff, fh, ft, fp, fl⟩ := facts F ok
  (first | (unfold SpecT; w_on; k_fill; intros; refine wpAny_call ?_; k_dflt ((first | ((refine' code_def ?k1 ?k2 ?k3 ?k4 ?k5 ?kA ?kF ?kK ?k6 ?k7 ?k8 ?k9 ?kB ?_ ?c2 ?c3 ?c4 ?c5; (case kA => exact rfl); (case kF => exact rfl); (case kK => assumption); (case k1 => k_asm); (case k2 => k_asm); (case k3 => k_asm); (case k4 => k_asm); (case k5 => k_asm); (case k6 => k_is); (case k7 => k_is); (case k8 => ktr_room); (case k9 => first | exact BindsTo.of_eq rfl | exact binds_K (by k_in) rfl (by k_is) rfl rfl rfl); (case c5 => decide); (case kB => exact locs rfl); (case c2 => exact rfl); (case c3 => exact rfl); (case c4 => exact rfl); k_whole; intro g' L' h' FG' F' N' B' X' T'; (try dsimp only); (try k_lift B'); (try k_fold))) | cell_enter)); k_steps) | (unfold SpecV; w_on; k_fill; intros; refine wpAny_call ?_; k_dflt ((first | ((refine' code_def ?k1 ?k2 ?k3 ?k4 ?k5 ?kA ?kF ?kK ?k6 ?k7 ?k8 ?k9 ?kB ?_ ?c2 ?c3 ?c4 ?c5; (case kA => exact rfl); (case kF => exact rfl); (case kK => assumption); (case k1 => k_asm); (case k2 => k_asm); (case k3 => k_asm); (case k4 => k_asm); (case k5 => k_asm); (case k6 => k_is); (case k7 => k_is); (case k8 => ktr_room); (case k9 => first | exact BindsTo.of_eq rfl | exact binds_K (by k_in) rfl (by k_is) rfl rfl rfl); (case c5 => decide); (case kB => exact locs rfl); (case c2 => exact rfl); (case c3 => exact rfl); (case c4 => exact rfl); k_whole; intro g' L' h' FG' F' N' B' X' T'; (try dsimp only); (try k_lift B'); (try k_fold))) | cell_enter)); k_steps))
  all_goals (try (first | (refine' SpecV.finI (by assumption) (by assumption) (by assumption) (by walk_at "mine:sub") ?_) | (refine' SpecV.finB (by assumption) (by assumption) (by assumption) (by walk_at "mine:sub") ?_) | (refine' SpecV.finN (by assumption) (by assumption) (by assumption) (by walk_at "mine:sub")) | (refine' SpecT.fin (by assumption) (by assumption) (by assumption) (by walk_at "mine:sub") ?_ ?_ ?_) | (exfalso; omega)))
  rfl
theorem sg_join {F : PForm} (ok : F.Ok) {s e f : Int} (he : 0 ≤ e ∧ e < F.two) (hf : 0 ≤ f ∧ f < F.hid) : sg F (join F s e f) = s := by
  have h1 := (facts F ok).h
  have h2 := (facts F ok).t
  unfold sg join
  rw [Int.add_comm, Int.add_mul_ediv_right _ _ (by omega), Int.ediv_eq_zero_of_lt hf.1 hf.2, Int.zero_add, Int.add_comm, Int.add_mul_ediv_right _ _ (by omega), Int.ediv_eq_zero_of_lt he.1 he.2, Int.zero_add]
theorem sg_neg {F : PForm} (ok : F.Ok) {x : Int} (hx : 0 ≤ sg F x ∧ sg F x ≤ 1) : 0 ≤ sg F (neg F x) ∧ sg F (neg F x) ≤ 1 := by
  have h1 := (facts F ok).h
  have h2 := (facts F ok).t
  have h3 := (facts F ok).p
  unfold neg
  split
  · unfold nan
    rw [sg_join ok (by omega) (by omega)]
    omega
  · rw [sg_join ok (ex_bound F ok x) (fr_bound F ok x)]
    omega
theorem fin_z {x y T : Int} (hT : total F x y = T) (h : T = 0) : zero F (both (sg F x) (sg F y)) = addFin F x y := by
  unfold addFin
  rw [hT, if_pos h]
theorem fin_n {x y T : Int} (hT : total F x y = T) (h : T < 0) : pack F 1 (0 - T) (low F x y) = addFin F x y := by
  unfold addFin
  rw [hT, if_neg (by omega), if_pos h]
theorem fin_p {x y T : Int} (hT : total F x y = T) (h : ¬ T = 0) (h2 : ¬ T < 0) : pack F 0 T (low F x y) = addFin F x y := by
  unfold addFin
  rw [hT, if_neg h, if_neg h2]
theorem total_nn {x y : Int} (h1 : sg F x = 1) (h2 : sg F y = 1) : total F x y = 0 - mant F x * 2 ^ (expo F x - low F x y).toNat + (0 - mant F y * 2 ^ (expo F y - low F x y).toNat) := by
  unfold total signed
  rw [if_pos h1, if_pos h2]
theorem total_np {x y : Int} (h1 : sg F x = 1) (h2 : ¬ sg F y = 1) : total F x y = 0 - mant F x * 2 ^ (expo F x - low F x y).toNat + mant F y * 2 ^ (expo F y - low F x y).toNat := by
  unfold total signed
  rw [if_pos h1, if_neg h2]
theorem total_pn {x y : Int} (h1 : ¬ sg F x = 1) (h2 : sg F y = 1) : total F x y = mant F x * 2 ^ (expo F x - low F x y).toNat + (0 - mant F y * 2 ^ (expo F y - low F x y).toNat) := by
  unfold total signed
  rw [if_neg h1, if_pos h2]
theorem total_pp {x y : Int} (h1 : ¬ sg F x = 1) (h2 : ¬ sg F y = 1) : total F x y = mant F x * 2 ^ (expo F x - low F x y).toNat + mant F y * 2 ^ (expo F y - low F x y).toNat := by
  unfold total signed
  rw [if_neg h1, if_neg h2]
set_option maxHeartbeats 4000000 in
theorem sp_addfin (hF : FormIn news Fo F) (ok : F.Ok) {x y : Int} (t u : Tok) (hx : 0 ≤ sg F x ∧ sg F x ≤ 1) (hy : 0 ≤ sg F y ∧ sg F y ≤ 1) : SpecV w mean mg mb news 148 [.ref Fo, .int x t, .int y u] 4 (fun t => .int (addFin F x y) t) := by
  obtain ⟨dx, k1, k2, k3, k4, k5, k6, t1, t2, t3, t4, t5, t6, u1, u2, u3, u4, u5, u6, hm1, hm2⟩ := id hF
  obtain ⟨fe, ff, fh, ft, fp, fl⟩ := facts F ok
  have h1 := mant_bound F ok x
  have h2 := expo_bound F ok x
  have h3 := mant_bound F ok y
  have h4 := expo_bound F ok y
  have h5 := shl_bound (d := expo F x - (if expo F y < expo F x then expo F y else expo F x)) h1.1 h1.2 (by omega)
  have h6 := shl_bound (d := expo F y - (if expo F y < expo F x then expo F y else expo F x)) h3.1 h3.2 (by omega)
  have h7 : 0 ≤ Builtin.bitAnd (sg F x) (sg F y) ∧ Builtin.bitAnd (sg F x) (sg F y) ≤ 1 := by rw [band01 hx hy]; exact both01 _ _
  (first | (unfold SpecT; w_on; k_fill; intros; refine wpAny_call ?_; k_dflt ((first | ((refine' code_def ?k1 ?k2 ?k3 ?k4 ?k5 ?kA ?kF ?kK ?k6 ?k7 ?k8 ?k9 ?kB ?_ ?c2 ?c3 ?c4 ?c5; (case kA => exact rfl); (case kF => exact rfl); (case kK => assumption); (case k1 => k_asm); (case k2 => k_asm); (case k3 => k_asm); (case k4 => k_asm); (case k5 => k_asm); (case k6 => k_is); (case k7 => k_is); (case k8 => ktr_room); (case k9 => first | exact BindsTo.of_eq rfl | exact binds_K (by k_in) rfl (by k_is) rfl rfl rfl); (case c5 => decide); (case kB => exact locs rfl); (case c2 => exact rfl); (case c3 => exact rfl); (case c4 => exact rfl); k_whole; intro g' L' h' FG' F' N' B' X' T'; (try dsimp only); (try k_lift B'); (try k_fold))) | cell_enter)); k_steps) | (unfold SpecV; w_on; k_fill; intros; refine wpAny_call ?_; k_dflt ((first | ((refine' code_def ?k1 ?k2 ?k3 ?k4 ?k5 ?kA ?kF ?kK ?k6 ?k7 ?k8 ?k9 ?kB ?_ ?c2 ?c3 ?c4 ?c5; (case kA => exact rfl); (case kF => exact rfl); (case kK => assumption); (case k1 => k_asm); (case k2 => k_asm); (case k3 => k_asm); (case k4 => k_asm); (case k5 => k_asm); (case k6 => k_is); (case k7 => k_is); (case k8 => ktr_room); (case k9 => first | exact BindsTo.of_eq rfl | exact binds_K (by k_in) rfl (by k_is) rfl rfl rfl); (case c5 => decide); (case kB => exact locs rfl); (case c2 => exact rfl); (case c3 => exact rfl); (case c4 => exact rfl); k_whole; intro g' L' h' FG' F' N' B' X' T'; (try dsimp only); (try k_lift B'); (try k_fold))) | cell_enter)); k_steps))
  all_goals (try (first | (refine' SpecV.finI (by assumption) (by assumption) (by assumption) (by walk_at "mine:sub") ?_) | (refine' SpecV.finB (by assumption) (by assumption) (by assumption) (by walk_at "mine:sub") ?_) | (refine' SpecV.finN (by assumption) (by assumption) (by assumption) (by walk_at "mine:sub")) | (refine' SpecT.fin (by assumption) (by assumption) (by assumption) (by walk_at "mine:sub") ?_ ?_ ?_) | (exfalso; omega)))
  all_goals (((simp only [decide_eq_true_eq, decide_eq_false_iff_not, beq_iff_eq, bne_iff_ne, beq_eq_false_iff_ne, bne_eq_false_iff_eq, ne_eq, Bool.not_eq_true, Bool.not_eq_false, Bool.not_eq_eq_eq_not, Bool.not_true, Bool.not_false, Bool.and_eq_true, Bool.or_eq_true, Bool.and_eq_false_imp, Bool.or_eq_false_iff, isNan, isInf, isZero, Bool.false_eq_true, false_iff, true_iff] at *)); (try rw [band01 hx hy]); first
    | with_reducible exact fin_z (total_nn (by assumption) (by assumption)) (by assumption)
    | with_reducible exact fin_z (total_np (by assumption) (by assumption)) (by assumption)
    | with_reducible exact fin_z (total_pn (by assumption) (by assumption)) (by assumption)
    | with_reducible exact fin_z (total_pp (by assumption) (by assumption)) (by assumption)
    | with_reducible exact fin_n (total_nn (by assumption) (by assumption)) (by first | assumption | lia)
    | with_reducible exact fin_n (total_np (by assumption) (by assumption)) (by first | assumption | lia)
    | with_reducible exact fin_n (total_pn (by assumption) (by assumption)) (by first | assumption | lia)
    | with_reducible exact fin_p (total_np (by assumption) (by assumption)) (by first | assumption | lia) (by first | assumption | lia)
    | with_reducible exact fin_p (total_pn (by assumption) (by assumption)) (by first | assumption | lia) (by first | assumption | lia)
    | with_reducible exact fin_p (total_pp (by assumption) (by assumption)) (by first | assumption | lia) (by first | assumption | lia))
theorem add_1 {x y : Int} (h : (ex F x = F.top ∧ fr F x ≠ 0) ∨ (ex F y = F.top ∧ fr F y ≠ 0)) : nan F = add F x y := by unfold add; rw [if_pos h]
theorem add_2 {x y : Int} (h : ¬ ((ex F x = F.top ∧ fr F x ≠ 0) ∨ (ex F y = F.top ∧ fr F y ≠ 0))) (hx : (ex F x = F.top ∧ fr F x = 0)) (hy : (ex F y = F.top ∧ fr F y = 0) ∧ sg F x ≠ sg F y) : nan F = add F x y := by unfold add; rw [if_neg h, if_pos hx, if_pos hy]
theorem add_3 {x y : Int} (h : ¬ ((ex F x = F.top ∧ fr F x ≠ 0) ∨ (ex F y = F.top ∧ fr F y ≠ 0))) (hx : (ex F x = F.top ∧ fr F x = 0)) (hy : ¬ ((ex F y = F.top ∧ fr F y = 0) ∧ sg F x ≠ sg F y)) : x = add F x y := by unfold add; rw [if_neg h, if_pos hx, if_neg hy]
theorem add_4 {x y : Int} (h : ¬ ((ex F x = F.top ∧ fr F x ≠ 0) ∨ (ex F y = F.top ∧ fr F y ≠ 0))) (hx : ¬ (ex F x = F.top ∧ fr F x = 0)) (hy : (ex F y = F.top ∧ fr F y = 0)) : y = add F x y := by unfold add; rw [if_neg h, if_neg hx, if_pos hy]
theorem add_5 {x y : Int} (h : ¬ ((ex F x = F.top ∧ fr F x ≠ 0) ∨ (ex F y = F.top ∧ fr F y ≠ 0))) (hx : ¬ (ex F x = F.top ∧ fr F x = 0)) (hy : ¬ (ex F y = F.top ∧ fr F y = 0)) : addFin F x y = add F x y := by unfold add; rw [if_neg h, if_neg hx, if_neg hy]
theorem mul_1 {x y : Int} (h : (ex F x = F.top ∧ fr F x ≠ 0) ∨ (ex F y = F.top ∧ fr F y ≠ 0)) : nan F = mul F x y := by unfold mul; rw [if_pos h]
theorem mul_2 {x y : Int} (h : ¬ ((ex F x = F.top ∧ fr F x ≠ 0) ∨ (ex F y = F.top ∧ fr F y ≠ 0))) (hx : (ex F x = F.top ∧ fr F x = 0) ∨ (ex F y = F.top ∧ fr F y = 0)) (hz : x % (F.hid * F.two) = 0 ∨ y % (F.hid * F.two) = 0) : nan F = mul F x y := by unfold mul; rw [if_neg h, if_pos hx, if_pos hz]
theorem mul_3 {x y : Int} (h : ¬ ((ex F x = F.top ∧ fr F x ≠ 0) ∨ (ex F y = F.top ∧ fr F y ≠ 0))) (hx : (ex F x = F.top ∧ fr F x = 0) ∨ (ex F y = F.top ∧ fr F y = 0)) (hz : ¬ (x % (F.hid * F.two) = 0 ∨ y % (F.hid * F.two) = 0)) : infi F (differ (sg F x) (sg F y)) = mul F x y := by unfold mul; rw [if_neg h, if_pos hx, if_neg hz]
theorem mul_4 {x y : Int} (h : ¬ ((ex F x = F.top ∧ fr F x ≠ 0) ∨ (ex F y = F.top ∧ fr F y ≠ 0))) (hx : ¬ ((ex F x = F.top ∧ fr F x = 0) ∨ (ex F y = F.top ∧ fr F y = 0))) : pack F (differ (sg F x) (sg F y)) (mant F x * mant F y) (expo F x + expo F y) = mul F x y := by unfold mul; rw [if_neg h, if_neg hx]
theorem wd26 : True := by
  k_with "mine:spec" => (exact sp_addfin (by walk_at "mine:form") (by assumption) _ _ (by first | assumption | omega) (by first | assumption | omega))
  trivial
set_option maxHeartbeats 4000000 in
theorem sp_add (hF : FormIn news Fo F) (ok : F.Ok) {x y : Int} (t u : Tok) (hx : 0 ≤ sg F x ∧ sg F x ≤ 1) (hy : 0 ≤ sg F y ∧ sg F y ≤ 1) : SpecV w mean mg mb news 155 [.ref Fo, .int x t, .int y u] 5 (fun t => .int (add F x y) t) := by
  obtain ⟨dx, k1, k2, k3, k4, k5, k6, t1, t2, t3, t4, t5, t6, u1, u2, u3, u4, u5, u6, hm1, hm2⟩ := id hF
  obtain ⟨fe, ff, fh, ft, fp, fl⟩ := facts F ok
  (first | (unfold SpecT; w_on; k_fill; intros; refine wpAny_call ?_; k_dflt ((first | ((refine' code_def ?k1 ?k2 ?k3 ?k4 ?k5 ?kA ?kF ?kK ?k6 ?k7 ?k8 ?k9 ?kB ?_ ?c2 ?c3 ?c4 ?c5; (case kA => exact rfl); (case kF => exact rfl); (case kK => assumption); (case k1 => k_asm); (case k2 => k_asm); (case k3 => k_asm); (case k4 => k_asm); (case k5 => k_asm); (case k6 => k_is); (case k7 => k_is); (case k8 => ktr_room); (case k9 => first | exact BindsTo.of_eq rfl | exact binds_K (by k_in) rfl (by k_is) rfl rfl rfl); (case c5 => decide); (case kB => exact locs rfl); (case c2 => exact rfl); (case c3 => exact rfl); (case c4 => exact rfl); k_whole; intro g' L' h' FG' F' N' B' X' T'; (try dsimp only); (try k_lift B'); (try k_fold))) | cell_enter)); k_steps) | (unfold SpecV; w_on; k_fill; intros; refine wpAny_call ?_; k_dflt ((first | ((refine' code_def ?k1 ?k2 ?k3 ?k4 ?k5 ?kA ?kF ?kK ?k6 ?k7 ?k8 ?k9 ?kB ?_ ?c2 ?c3 ?c4 ?c5; (case kA => exact rfl); (case kF => exact rfl); (case kK => assumption); (case k1 => k_asm); (case k2 => k_asm); (case k3 => k_asm); (case k4 => k_asm); (case k5 => k_asm); (case k6 => k_is); (case k7 => k_is); (case k8 => ktr_room); (case k9 => first | exact BindsTo.of_eq rfl | exact binds_K (by k_in) rfl (by k_is) rfl rfl rfl); (case c5 => decide); (case kB => exact locs rfl); (case c2 => exact rfl); (case c3 => exact rfl); (case c4 => exact rfl); k_whole; intro g' L' h' FG' F' N' B' X' T'; (try dsimp only); (try k_lift B'); (try k_fold))) | cell_enter)); k_steps))
  all_goals (try (first | (refine' SpecV.finI (by assumption) (by assumption) (by assumption) (by walk_at "mine:sub") ?_) | (refine' SpecV.finB (by assumption) (by assumption) (by assumption) (by walk_at "mine:sub") ?_) | (refine' SpecV.finN (by assumption) (by assumption) (by assumption) (by walk_at "mine:sub")) | (refine' SpecT.fin (by assumption) (by assumption) (by assumption) (by walk_at "mine:sub") ?_ ?_ ?_) | (exfalso; omega)))
  all_goals ((simp only [decide_eq_true_eq, decide_eq_false_iff_not, beq_iff_eq, bne_iff_ne, beq_eq_false_iff_ne, bne_eq_false_iff_eq, ne_eq, Bool.not_eq_true, Bool.not_eq_false, Bool.not_eq_eq_eq_not, Bool.not_true, Bool.not_false, Bool.and_eq_true, Bool.or_eq_true, Bool.and_eq_false_imp, Bool.or_eq_false_iff, isNan, isInf, isZero, Bool.false_eq_true, false_iff, true_iff] at *))
  all_goals (try clear hx)
  all_goals (try clear hy)
  all_goals clear fe ff fh ft fp fl
  all_goals (first
    | with_reducible exact add_1 (by lia)
    | with_reducible exact add_5 (by lia) (by lia) (by lia)
    | with_reducible exact add_4 (by lia) (by lia) (by lia)
    | with_reducible exact add_3 (by lia) (by lia) (by lia)
    | with_reducible exact add_2 (by lia) (by lia) (by lia))
set_option maxHeartbeats 4000000 in
theorem sp_mul (hF : FormIn news Fo F) (ok : F.Ok) {x y : Int} (t u : Tok) (hx : 0 ≤ sg F x ∧ sg F x ≤ 1) (hy : 0 ≤ sg F y ∧ sg F y ≤ 1) : SpecV w mean mg mb news 169 [.ref Fo, .int x t, .int y u] 4 (fun t => .int (mul F x y) t) := by
  obtain ⟨dx, k1, k2, k3, k4, k5, k6, t1, t2, t3, t4, t5, t6, u1, u2, u3, u4, u5, u6, hm1, hm2⟩ := id hF
  obtain ⟨fe, ff, fh, ft, fp, fl⟩ := facts F ok
  have h1 := mant_bound F ok x
  have h2 := expo_bound F ok x
  have h3 := mant_bound F ok y
  have h4 := expo_bound F ok y
  have h5 : 0 ≤ mant F x * mant F y ∧ mant F x * mant F y < 2 ^ 64 := ⟨Int.mul_nonneg h1.1 h3.1, Int.lt_of_le_of_lt (Int.mul_le_mul (show mant F x ≤ 127 by omega) (show mant F y ≤ 127 by omega) h3.1 (by decide)) (by decide)⟩
  have h7 : 0 ≤ Builtin.bitXor (sg F x) (sg F y) ∧ Builtin.bitXor (sg F x) (sg F y) ≤ 1 := by rw [bxor01 hx hy]; exact differ01 _ _
  (first | (unfold SpecT; w_on; k_fill; intros; refine wpAny_call ?_; k_dflt ((first | ((refine' code_def ?k1 ?k2 ?k3 ?k4 ?k5 ?kA ?kF ?kK ?k6 ?k7 ?k8 ?k9 ?kB ?_ ?c2 ?c3 ?c4 ?c5; (case kA => exact rfl); (case kF => exact rfl); (case kK => assumption); (case k1 => k_asm); (case k2 => k_asm); (case k3 => k_asm); (case k4 => k_asm); (case k5 => k_asm); (case k6 => k_is); (case k7 => k_is); (case k8 => ktr_room); (case k9 => first | exact BindsTo.of_eq rfl | exact binds_K (by k_in) rfl (by k_is) rfl rfl rfl); (case c5 => decide); (case kB => exact locs rfl); (case c2 => exact rfl); (case c3 => exact rfl); (case c4 => exact rfl); k_whole; intro g' L' h' FG' F' N' B' X' T'; (try dsimp only); (try k_lift B'); (try k_fold))) | cell_enter)); k_steps) | (unfold SpecV; w_on; k_fill; intros; refine wpAny_call ?_; k_dflt ((first | ((refine' code_def ?k1 ?k2 ?k3 ?k4 ?k5 ?kA ?kF ?kK ?k6 ?k7 ?k8 ?k9 ?kB ?_ ?c2 ?c3 ?c4 ?c5; (case kA => exact rfl); (case kF => exact rfl); (case kK => assumption); (case k1 => k_asm); (case k2 => k_asm); (case k3 => k_asm); (case k4 => k_asm); (case k5 => k_asm); (case k6 => k_is); (case k7 => k_is); (case k8 => ktr_room); (case k9 => first | exact BindsTo.of_eq rfl | exact binds_K (by k_in) rfl (by k_is) rfl rfl rfl); (case c5 => decide); (case kB => exact locs rfl); (case c2 => exact rfl); (case c3 => exact rfl); (case c4 => exact rfl); k_whole; intro g' L' h' FG' F' N' B' X' T'; (try dsimp only); (try k_lift B'); (try k_fold))) | cell_enter)); k_steps))
  all_goals (try (first | (refine' SpecV.finI (by assumption) (by assumption) (by assumption) (by walk_at "mine:sub") ?_) | (refine' SpecV.finB (by assumption) (by assumption) (by assumption) (by walk_at "mine:sub") ?_) | (refine' SpecV.finN (by assumption) (by assumption) (by assumption) (by walk_at "mine:sub")) | (refine' SpecT.fin (by assumption) (by assumption) (by assumption) (by walk_at "mine:sub") ?_ ?_ ?_) | (exfalso; omega)))
  all_goals ((try rw [bxor01 hx hy]); ((simp only [decide_eq_true_eq, decide_eq_false_iff_not, beq_iff_eq, bne_iff_ne, beq_eq_false_iff_ne, bne_eq_false_iff_eq, ne_eq, Bool.not_eq_true, Bool.not_eq_false, Bool.not_eq_eq_eq_not, Bool.not_true, Bool.not_false, Bool.and_eq_true, Bool.or_eq_true, Bool.and_eq_false_imp, Bool.or_eq_false_iff, isNan, isInf, isZero, Bool.false_eq_true, false_iff, true_iff] at *)))
  all_goals clear fe ff fh ft fp fl h1 h2 h3 h4 h5 h7 hx hy
  all_goals (first
    | with_reducible exact mul_1 (by lia)
    | with_reducible exact mul_4 (by lia) (by lia)
    | with_reducible exact mul_3 (by lia) (by lia) (by lia)
    | with_reducible exact mul_2 (by lia) (by lia) (by lia))
theorem wd27 : True := by
  k_with "mine:spec" => (exact sp_add (by walk_at "mine:form") (by assumption) _ _ (by first | assumption | omega) (by first | assumption | omega))
  trivial
set_option maxHeartbeats 4000000 in
theorem sp_sub (hF : FormIn news Fo F) (ok : F.Ok) {x y : Int} (t u : Tok) (hx : 0 ≤ sg F x ∧ sg F x ≤ 1) (hy : 0 ≤ sg F y ∧ sg F y ≤ 1) : SpecV w mean mg mb news 162 [.ref Fo, .int x t, .int y u] 6 (fun t => .int (sub F x y) t) := by
  obtain ⟨dx, k1, k2, k3, k4, k5, k6, t1, t2, t3, t4, t5, t6, u1, u2, u3, u4, u5, u6, hm1, hm2⟩ := id hF
  obtain ⟨fe, ff, fh, ft, fp, fl⟩ := facts F ok
  have h1 : 0 ≤ sg F (neg F y) ∧ sg F (neg F y) ≤ 1 := sg_neg ok hy
  (first | (unfold SpecT; w_on; k_fill; intros; refine wpAny_call ?_; k_dflt ((first | ((refine' code_def ?k1 ?k2 ?k3 ?k4 ?k5 ?kA ?kF ?kK ?k6 ?k7 ?k8 ?k9 ?kB ?_ ?c2 ?c3 ?c4 ?c5; (case kA => exact rfl); (case kF => exact rfl); (case kK => assumption); (case k1 => k_asm); (case k2 => k_asm); (case k3 => k_asm); (case k4 => k_asm); (case k5 => k_asm); (case k6 => k_is); (case k7 => k_is); (case k8 => ktr_room); (case k9 => first | exact BindsTo.of_eq rfl | exact binds_K (by k_in) rfl (by k_is) rfl rfl rfl); (case c5 => decide); (case kB => exact locs rfl); (case c2 => exact rfl); (case c3 => exact rfl); (case c4 => exact rfl); k_whole; intro g' L' h' FG' F' N' B' X' T'; (try dsimp only); (try k_lift B'); (try k_fold))) | cell_enter)); k_steps) | (unfold SpecV; w_on; k_fill; intros; refine wpAny_call ?_; k_dflt ((first | ((refine' code_def ?k1 ?k2 ?k3 ?k4 ?k5 ?kA ?kF ?kK ?k6 ?k7 ?k8 ?k9 ?kB ?_ ?c2 ?c3 ?c4 ?c5; (case kA => exact rfl); (case kF => exact rfl); (case kK => assumption); (case k1 => k_asm); (case k2 => k_asm); (case k3 => k_asm); (case k4 => k_asm); (case k5 => k_asm); (case k6 => k_is); (case k7 => k_is); (case k8 => ktr_room); (case k9 => first | exact BindsTo.of_eq rfl | exact binds_K (by k_in) rfl (by k_is) rfl rfl rfl); (case c5 => decide); (case kB => exact locs rfl); (case c2 => exact rfl); (case c3 => exact rfl); (case c4 => exact rfl); k_whole; intro g' L' h' FG' F' N' B' X' T'; (try dsimp only); (try k_lift B'); (try k_fold))) | cell_enter)); k_steps))
  all_goals (try (first | (refine' SpecV.finI (by assumption) (by assumption) (by assumption) (by walk_at "mine:sub") ?_) | (refine' SpecV.finB (by assumption) (by assumption) (by assumption) (by walk_at "mine:sub") ?_) | (refine' SpecV.finN (by assumption) (by assumption) (by assumption) (by walk_at "mine:sub")) | (refine' SpecT.fin (by assumption) (by assumption) (by assumption) (by walk_at "mine:sub") ?_ ?_ ?_) | (exfalso; omega)))
  rfl
/-- the reader of the script -/
def SpecL (w : World) (mean : ExcName → Option Value) (mg mb : Str → Option Value) (news : List (Addr × Obj)) (f : Addr) (l : Addr) (vs : List Value) (ns : List Int) (i : Int) (tk : Tok) (sz : Nat) (base : Heap) : Prop :=
  ∀ (dp un : Nat) (gd : Option (List Code)) (cn : Str) (cs : Scope) (a : Addr) (ccd : Value) (cl : List (Str × Addr)) (outer : List Env) (A₀ : Around) (h₀ : Heap) (L : Addr) (m : Str → Option Value) (s : Shared) (Q E : Value → Shared → Prop),
    Below A₀ base outer h₀ → Fr h₀ L s.heap m → (Mine.hd.heap_39 w.params).In h₀ → News h₀ L s.heap news → Top Mine.hd.view_39 (looseW Mine.hd.view_39 [Str.ofString "pack"]) mean mg mb h₀ → cs.kind = .function →
    base.IsList l vs.toArray → IntsAre vs ns → ns.length < 2 ^ 62 → dp + sz < recursionLimit → un + 8 * sz < cLine →
    (∀ (t : Tok) (h' : Heap) (tk' : Nat), Fr h₀ L h' m → News h₀ L h' news → Q (.int (lawAt ns i) t) { s with heap := h', toks := tk' }) →
    wpAny (model PySem.Challenge.rw_pq0747_01.row.prog w) (ktrTop dp un gd cn cs L a ccd cl outer) (call (.ref f) [.ref l, .int i tk]) Q E s
theorem SpecL.use {f : Addr} {sz : Nat} {l : Addr} {vs : List Value} {ns : List Int} {i : Int} {tk : Tok}
  {dp un : Nat} {gd : Option (List Code)} {cn : Str} {cs : Scope} {a : Addr} {ccd : Value} {cl : List (Str × Addr)} {outer : List Env} {A₀ : Around} {base h₀ : Heap} {L : Addr} {m : Str → Option Value} {s : Shared} {Q E : Value → Shared → Prop}
    (B : Below A₀ base outer h₀) (F : Fr h₀ L s.heap m) (X : (Mine.hd.heap_39 w.params).In h₀) (N : News h₀ L s.heap news) (T : Top Mine.hd.view_39 (looseW Mine.hd.view_39 [Str.ofString "pack"]) mean mg mb h₀) (hk : cs.kind = .function)
    (hl : base.IsList l vs.toArray) (C : SpecL w mean mg mb news f l vs ns i tk sz base) (hi : IntsAre vs ns) (hfit : ns.length < 2 ^ 62) (hd : dp + sz < recursionLimit) (hu : un + 8 * sz < cLine)
    (ret : ∀ (t : Tok) (h' : Heap) (tk' : Nat), Fr h₀ L h' m → News h₀ L h' news → Q (.int (lawAt ns i) t) { s with heap := h', toks := tk' }) :
    wpAny (model PySem.Challenge.rw_pq0747_01.row.prog w) (ktrTop dp un gd cn cs L a ccd cl outer) (PySem.call (.ref f) [.ref l, .int i tk]) Q E s :=
  C _ _ _ _ _ _ _ _ _ _ _ _ _ _ _ _ B F X N T hk hl hi hfit hd hu ret
theorem lawAt_in {ns : List Int} {i : Int} (h0 : 0 ≤ i) (h1 : i < ns.length) : ns.getD i.toNat 0 = lawAt ns i := by
  have h : i.toNat < ns.length := by omega
  unfold lawAt
  rw [List.getD_eq_getElem?_getD, List.getD_eq_getElem?_getD, List.getElem?_eq_getElem h]
  rfl
theorem lawAt_out {ns : List Int} {i : Int} (h0 : 0 ≤ i) (h1 : ¬ i < ns.length) : 11 * i + 5 = lawAt ns i := by
  have h : ns.length ≤ i.toNat := by omega
  unfold lawAt
  rw [List.getD_eq_getElem?_getD, List.getElem?_eq_none h]
  rfl
set_option maxHeartbeats 4000000 in
theorem sp_lawat {base : Heap} {l : Addr} {vs : List Value} {ns : List Int} {i : Int} (tk : Tok) (h0 : 0 ≤ i ∧ i ≤ 100) : SpecL w mean mg mb news 204 l vs ns i tk 1 base := by
  have hi0 := h0.1
  unfold SpecL
  w_on
  k_fill
  intros
  refine wpAny_call ?_
  k_dflt ((first | ((refine' code_def ?k1 ?k2 ?k3 ?k4 ?k5 ?kA ?kF ?kK ?k6 ?k7 ?k8 ?k9 ?kB ?_ ?c2 ?c3 ?c4 ?c5; (case kA => exact rfl); (case kF => exact rfl); (case kK => assumption); (case k1 => k_asm); (case k2 => k_asm); (case k3 => k_asm); (case k4 => k_asm); (case k5 => k_asm); (case k6 => k_is); (case k7 => k_is); (case k8 => ktr_room); (case k9 => first | exact BindsTo.of_eq rfl | exact binds_K (by k_in) rfl (by k_is) rfl rfl rfl); (case c5 => decide); (case kB => exact locs rfl); (case c2 => exact rfl); (case c3 => exact rfl); (case c4 => exact rfl); k_whole; intro g' L' h' FG' F' N' B' X' T'; (try dsimp only); (try k_lift B'); (try k_fold))) | cell_enter))
  k_steps
  all_goals (first | (refine' SpecV.finI (by assumption) (by assumption) (by assumption) (by walk_at "mine:sub") ?_) | (refine' SpecV.finB (by assumption) (by assumption) (by assumption) (by walk_at "mine:sub") ?_) | (refine' SpecV.finN (by assumption) (by assumption) (by assumption) (by walk_at "mine:sub")) | (refine' SpecT.fin (by assumption) (by assumption) (by assumption) (by walk_at "mine:sub") ?_ ?_ ?_) | (exfalso; omega))
  all_goals (((simp only [decide_eq_true_eq, decide_eq_false_iff_not, beq_iff_eq, bne_iff_ne, beq_eq_false_iff_ne, bne_eq_false_iff_eq, ne_eq, Bool.not_eq_true, Bool.not_eq_false, Bool.not_eq_eq_eq_not, Bool.not_true, Bool.not_false, Bool.and_eq_true, Bool.or_eq_true, Bool.and_eq_false_imp, Bool.or_eq_false_iff, isNan, isInf, isZero, Bool.false_eq_true, false_iff, true_iff] at *)); first | exact lawAt_in (by omega) (by omega) | exact lawAt_out (by omega) (by omega))
end
-- part FW
theorem form_of {h₀ h : Heap} {L : Addr} {news : List (Addr × Obj)} {x d : Addr} (k j : Int) {k1 k2 k3 k4 k5 k6 : Int} {t1 t2 t3 t4 t5 t6 u1 u2 u3 u4 u5 u6 : Tok} (_ : News h₀ L h news) (hk : 0 ≤ k) (hk' : k < 4) (hj : 0 ≤ j) (hj' : j < 6) (h1 : (x, instObj 31 d) ∈ news)
    (h2 : (d, dictOf [⟨k1, .str (Str.ofString "exponent_bits") t1, .int (2 + k) u1⟩, ⟨k2, .str (Str.ofString "fraction_bits") t2, .int (1 + j) u2⟩, ⟨k3, .str (Str.ofString "bias") t3, .int (1 * 2 ^ (2 + k - 1).toNat - 1) u3⟩, ⟨k4, .str (Str.ofString "top") t4, .int (1 * 2 ^ (2 + k).toNat - 1) u4⟩, ⟨k5, .str (Str.ofString "hidden") t5, .int (1 * 2 ^ (1 + j).toNat) u5⟩, ⟨k6, .str (Str.ofString "least") t6, .int (1 - (1 * 2 ^ (2 + k - 1).toNat - 1) - (1 + j)) u6⟩] 6) ∈ news) :
    ∃ F : PForm, F.Ok ∧ FormIn news x F ∧ (2 : Int) ^ (1 + (2 + k) + (1 + j)).toNat = 2 * F.two * F.hid := by
  refine ⟨⟨2 + k.toNat, 1 + j.toNat⟩, ⟨by simp only []; lia, by simp only []; lia, by simp only []; lia, by simp only []; lia⟩, ⟨d, k1, k2, k3, k4, k5, k6, t1, t2, t3, t4, t5, t6, u1, u2, u3, u4, u5, u6, h1, ?_⟩, ?_⟩
  · have e1 : ((2 + k.toNat : Nat) : Int) = 2 + k := by lia
    have e2 : ((1 + j.toNat : Nat) : Int) = 1 + j := by lia
    have e3 : (PForm.mk (2 + k.toNat) (1 + j.toNat)).bias = 1 * 2 ^ (2 + k - 1).toNat - 1 := by
      unfold PForm.bias
      rw [show (2 + k - 1).toNat = 2 + k.toNat - 1 by lia, Int.one_mul]
    have e4 : (PForm.mk (2 + k.toNat) (1 + j.toNat)).top = 1 * 2 ^ (2 + k).toNat - 1 := by
      unfold PForm.top
      rw [show (2 + k).toNat = 2 + k.toNat by lia, Int.one_mul]
    have e5 : (PForm.mk (2 + k.toNat) (1 + j.toNat)).hid = 1 * 2 ^ (1 + j).toNat := by
      unfold PForm.hid
      rw [show (1 + j).toNat = 1 + j.toNat by lia, Int.one_mul]
    have e6 : (PForm.mk (2 + k.toNat) (1 + j.toNat)).least = 1 - (1 * 2 ^ (2 + k - 1).toNat - 1) - (1 + j) := by
      unfold PForm.least
      rw [e3]; simp only []; lia
    rw [e3, e4, e5, e6]
    simp only [e1, e2]
    exact h2
  · unfold PForm.two PForm.hid
    simp only []
    rw [← Int.pow_succ', ← Int.pow_add]
    congr 1
    lia
theorem fmod_range {x p q : Int} (hp : p = q) (h : 0 < q) : 0 ≤ x.fmod p ∧ x.fmod p < q := by
  subst hp
  rw [Int.fmod_eq_emod_of_nonneg _ (Int.le_of_lt h)]
  exact ⟨Int.emod_nonneg _ (by lia), Int.emod_lt_of_pos _ h⟩
theorem fmod_sg {F : PForm} (ok : F.Ok) {x p : Int} (hp : p = 2 * F.two * F.hid) : Sg F (x.fmod p) := by
  have h1 := (facts F ok).h
  have h2 := (facts F ok).t
  have h3 : 0 < 2 * F.two * F.hid := Int.mul_pos (by lia) (by lia)
  have := fmod_range (x := x) hp h3
  exact m_sg_range ok this.1 this.2
theorem ints3 {h₀ h : Heap} {L D : Addr} {rest : List (Addr × Obj)} {a b c : Int} {ta tb tc : Tok} (_ : News h₀ L h ((D, W.listOf [.int a ta, .int b tb, .int c tc].toArray 0) :: rest)) : IntsAre [.int a ta, .int b tb, .int c tc] [a, b, c] := .cons _ _ (.cons _ _ (.cons _ _ .nil))
theorem mem3 {a b c x : Int} {p : Int → Prop} (h : x ∈ [a, b, c]) (ha : p a) (hb : p b) (hc : p c) : p x := by
  simp only [List.mem_cons, List.not_mem_nil, or_false] at h
  rcases h with rfl | rfl | rfl <;> assumption
theorem fr_base {h₀ h : Heap} {L : Addr} {k1 k2 k3 k4 : Str} {v1 v2 v3 v4 : Option Value} {m₀ : Str → Option Value} (F : Fr h₀ L h (fun y => if y = k1 then v1 else if y = k2 then v2 else if y = k3 then v3 else if y = k4 then v4 else m₀ y)) : ∃ m : Str → Option Value, Fr h₀ L h (fun y => if y = k1 then v1 else if y = k2 then v2 else if y = k3 then v3 else if y = k4 then v4 else m y) := ⟨m₀, F⟩
/-- the operations, unopened -/
structure Ops where
  N : List (Addr × Obj) → Prop
  sgn : Int → Prop
  isN : Int → Bool
  isI : Int → Bool
  nan : Int
  two : Int
  neg : Int → Int
  abs : Int → Int
  floor : Int → Int
  add : Int → Int → Int
  mul : Int → Int → Int
  sub : Int → Int → Int
  cmp : Int → Int → Int
/-- the contracts and the laws of the operations -/
structure OpsOk (O : Ops) (w : World) (mean : ExcName → Option Value) (mg mb : Str → Option Value) (Fo : Addr) : Prop where
  cons : ∀ p news, O.N news → O.N (p :: news)
  sub : ∀ news news', O.N news → (∀ p ∈ news, p ∈ news') → O.N news'
  c_nan_t : ∀ (news : List (Addr × Obj)) (x : Int) (t : Tok), O.N news → O.isN x = true → SpecV w mean mg mb news 77 [.ref Fo, .int x t] 2 (fun _ => .bool true)
  c_nan_f : ∀ (news : List (Addr × Obj)) (x : Int) (t : Tok), O.N news → O.isN x = false → SpecV w mean mg mb news 77 [.ref Fo, .int x t] 2 (fun _ => .bool false)
  c_inf_t : ∀ (news : List (Addr × Obj)) (x : Int) (t : Tok), O.N news → O.isI x = true → SpecV w mean mg mb news 84 [.ref Fo, .int x t] 2 (fun _ => .bool true)
  c_inf_f : ∀ (news : List (Addr × Obj)) (x : Int) (t : Tok), O.N news → O.isI x = false → SpecV w mean mg mb news 84 [.ref Fo, .int x t] 2 (fun _ => .bool false)
  c_nan0 : ∀ (news : List (Addr × Obj)), O.N news → SpecV w mean mg mb news 63 [.ref Fo] 2 (fun t => .int O.nan t)
  c_neg : ∀ (news : List (Addr × Obj)) (x : Int) (t : Tok), O.N news → O.sgn x → SpecV w mean mg mb news 134 [.ref Fo, .int x t] 3 (fun t => .int (O.neg x) t)
  c_abs : ∀ (news : List (Addr × Obj)) (x : Int) (t : Tok), O.N news → SpecV w mean mg mb news 141 [.ref Fo, .int x t] 3 (fun t => .int (O.abs x) t)
  c_cmp : ∀ (news : List (Addr × Obj)) (x y : Int) (t u : Tok), O.N news → O.isN x = false → O.isN y = false → SpecV w mean mg mb news 176 [.ref Fo, .int x t, .int y u] 3 (fun t => .int (O.cmp x y) t)
  c_cmpN1 : ∀ (news : List (Addr × Obj)) (x y : Int) (t u : Tok), O.N news → O.isN x = true → SpecV w mean mg mb news 176 [.ref Fo, .int x t, .int y u] 3 (fun _ => .none)
  c_cmpN2 : ∀ (news : List (Addr × Obj)) (x y : Int) (t u : Tok), O.N news → O.isN y = true → SpecV w mean mg mb news 176 [.ref Fo, .int x t, .int y u] 3 (fun _ => .none)
  c_floor : ∀ (news : List (Addr × Obj)) (x : Int) (t : Tok), O.N news → O.isI x = false → O.isN x = false → SpecV w mean mg mb news 197 [.ref Fo, .int x t] 3 (fun t => .int (O.floor x) t)
  c_floorI : ∀ (news : List (Addr × Obj)) (x : Int) (t : Tok), O.N news → O.isI x = true → SpecV w mean mg mb news 197 [.ref Fo, .int x t] 3 (fun _ => .none)
  c_floorN : ∀ (news : List (Addr × Obj)) (x : Int) (t : Tok), O.N news → O.isN x = true → SpecV w mean mg mb news 197 [.ref Fo, .int x t] 3 (fun _ => .none)
  c_two : ∀ (news : List (Addr × Obj)) (t : Tok), O.N news → SpecV w mean mg mb news 190 [.ref Fo, .int 2 t] 4 (fun t => .int O.two t)
  c_add : ∀ (news : List (Addr × Obj)) (x y : Int) (t u : Tok), O.N news → O.sgn x → O.sgn y → SpecV w mean mg mb news 155 [.ref Fo, .int x t, .int y u] 5 (fun t => .int (O.add x y) t)
  c_mul : ∀ (news : List (Addr × Obj)) (x y : Int) (t u : Tok), O.N news → O.sgn x → O.sgn y → SpecV w mean mg mb news 169 [.ref Fo, .int x t, .int y u] 4 (fun t => .int (O.mul x y) t)
  c_sub : ∀ (news : List (Addr × Obj)) (x y : Int) (t u : Tok), O.N news → O.sgn x → O.sgn y → SpecV w mean mg mb news 162 [.ref Fo, .int x t, .int y u] 6 (fun t => .int (O.sub x y) t)
  sg_neg : ∀ x, O.sgn x → O.sgn (O.neg x)
  sg_abs : ∀ x, O.sgn (O.abs x)
  sg_two : O.sgn O.two
  sg_sub : ∀ x y, O.sgn x → O.sgn y → O.sgn (O.sub x y)
  add_comm : ∀ x y, O.add x y = O.add y x
  mul_comm : ∀ x y, O.mul x y = O.mul y x
  neg_nan : ∀ x, O.isN x = true → O.neg x = O.nan
  abs_nan : ∀ x, O.isN x = true → O.abs x = O.nan
  add_nan : ∀ x y, O.isN x = true → O.add x y = O.nan
  neg_neg : ∀ x, O.isN x = false → O.neg (O.neg x) = x
  cmp_self : ∀ x, O.cmp x x = 0
  abs_num : ∀ x, O.isN x = false → O.isN (O.abs x) = false
  cmp_abs : ∀ x, O.isN x = false → O.sgn x → O.cmp (O.abs x) x = 0 ∨ O.cmp (O.abs x) x = 1
  dbl : ∀ x, O.isN x = false → O.sgn x → O.add x x = O.mul x O.two
  turn : ∀ x y, O.isN x = false → O.isN y = false → O.sgn x → O.sgn y → O.cmp x y ≠ 0 → O.sub x y = O.neg (O.sub y x)
  cmp_turn : ∀ x y, ¬ O.cmp x y ≤ 0 → O.cmp y x ≤ 0
  floor_mono : ∀ x y, O.isN x = false → O.isN y = false → O.isI x = false → O.isI y = false → O.sgn x → O.sgn y → O.cmp x y ≤ 0 → O.floor x ≤ O.floor y
  add_num : ∀ x z, O.isN x = false → O.isN z = false → O.isI z = false → O.isN (O.add x z) = false
  add_mono : ∀ x y z, O.isN x = false → O.isN y = false → O.isN z = false → O.isI z = false → O.sgn x → O.sgn y → O.sgn z → O.cmp x y ≤ 0 → O.cmp (O.add x z) (O.add y z) = -1 ∨ O.cmp (O.add x z) (O.add y z) = 0
  mul_mono : ∀ x y z, O.isN x = false → O.isN y = false → O.isN z = false → O.sgn x → O.sgn y → O.sgn z → O.cmp x y ≤ 0 → O.isN (O.mul x (O.abs z)) = false → O.isN (O.mul y (O.abs z)) = false →
    O.cmp (O.mul x (O.abs z)) (O.mul y (O.abs z)) = -1 ∨ O.cmp (O.mul x (O.abs z)) (O.mul y (O.abs z)) = 0
theorem ops_sub {O : Ops} {w : World} {mean : ExcName → Option Value} {mg mb : Str → Option Value} {Fo : Addr} (hO : OpsOk O w mean mg mb Fo) {h₀ h : Heap} {L : Addr} {news news' : List (Addr × Obj)} (hN : O.N news) (_ : News h₀ L h news') (hs : ∀ p ∈ news, p ∈ news') : O.N news' := hO.sub _ _ hN hs
theorem truthy_is {M : Model} {A : Around} {E : Value → Shared → Prop} {s : Shared} {Q : Bool → Shared → Prop} {b : Bool} (b' : Bool) (e : b = b') (h : wpAny M A (truthy (.bool b')) Q E s) : wpAny M A (truthy (.bool b)) Q E s := e ▸ h
theorem notin01 {x : Int} (h : x = 0 ∨ x = 1) : (![0, 1].any fun y => y == x) = false := by rcases h with rfl | rfl <;> rfl
theorem notin10 {x : Int} (h : x = -1 ∨ x = 0) : (![-1, 0].any fun y => y == x) = false := by rcases h with rfl | rfl <;> rfl
theorem nan3 {x y z n : Int} {k : Nat} (e1 : x = n) (e2 : y = n) (e3 : z = n) (hk : k = 3) : (!decide ([x, y, z] = (List.replicate k [n]).flatten)) = false := by subst e1; subst e2; subst e3; subst hk; simp
theorem in_m10N {prog : Program} {w : World} {A : Around} {E : Value → Shared → Prop} {s : Shared} {l : Addr} {t u : Tok} {x : Value} {Q : Value → Shared → Prop} (hl : s.heap.IsList l #[.int (-1) t, .int 0 u, .none]) (hx : x = .none ∨ ∃ k v, x = .int k v ∧ (k = -1 ∨ k = 0))
    (h : Q (.bool true) s) : wpAny (model prog w) A (compareOp .In x (.ref l)) Q E s := by
  rcases hx with rfl | ⟨k, v, rfl, hk⟩
  · refine SeqAt.in_listAt (fun y => match y with | .none => true | _ => false) hl (fun y hy => ?_) (by rw [← Array.any_toList]; exact h)
    simp only [List.mem_toArray, List.mem_cons, List.not_mem_nil, or_false] at hy
    rcases hy with rfl | rfl | rfl
    · exact SeqAt.EqAt.int_none _ _
    · exact SeqAt.EqAt.int_none _ _
    · exact SeqAt.EqAt.same _
  · refine SeqAt.in_listAt (fun y => match y with | .int i _ => i == k | _ => false) hl (fun y hy => ?_) ?_
    · simp only [List.mem_toArray, List.mem_cons, List.not_mem_nil, or_false] at hy
      rcases hy with rfl | rfl | rfl
      · exact SeqAt.EqAt.int_int _ _ _ _
      · exact SeqAt.EqAt.int_int _ _ _ _
      · exact SeqAt.EqAt.none_int _ _
    · rw [← Array.any_toList]
      rcases hk with rfl | rfl <;> exact h
/-- True may be handed back, at any heap that keeps what was laid -/
def EndOk (s₁ : Shared) (q : Flow → Shared → Prop) : Prop := ∀ (h : Heap) (tk : Nat) (L : Addr) (m : Str → Option Value), Fr s₁.heap L h m → q (.ret (.bool true)) { s₁ with heap := h, toks := tk }
theorem EndOk.use {s₁ : Shared} {q : Flow → Shared → Prop} {h : Heap} {tk : Nat} {L : Addr} {m : Str → Option Value} (e : EndOk s₁ q) (F : Fr s₁.heap L h m) : q (.ret (.bool true)) { s₁ with heap := h, toks := tk } := e h tk L m F
theorem strip2 {α β : Type} {p : α → β → Prop} {v : α} {s : β} (h : p v s) : p v s := h
theorem cmp_turn {F : PForm} {x y : Int} (h : ¬ cmpOf F x y ≤ 0) : cmpOf F y x ≤ 0 := by
  unfold cmpOf at *
  split at h
  · lia
  · split at h
    · lia
    · split
      · lia
      · split <;> lia
theorem dt {p : Prop} [Decidable p] (h : decide p = true) : p := of_decide_eq_true h
theorem df {p : Prop} [Decidable p] (h : decide p = false) : ¬ p := of_decide_eq_false h
theorem specB {w : World} {mean : ExcName → Option Value} {mg mb : Str → Option Value} {news : List (Addr × Obj)} {f : Addr} {vs : List Value} {sz : Nat} {x y : Bool} (e : x = y) (h : SpecV w mean mg mb news f vs sz (fun _ => .bool x)) : SpecV w mean mg mb news f vs sz (fun _ => .bool y) := e ▸ h
theorem ops_of {F : PForm} (ok : F.Ok) (w : World) {mean : ExcName → Option Value} {mg mb : Str → Option Value} {h₀ : Heap} (_ : Top Mine.hd.view_39 (looseW Mine.hd.view_39 [Str.ofString "pack"]) mean mg mb h₀) {news : List (Addr × Obj)} {Fo : Addr} (hF : FormIn news Fo F) {a b c : Int} (sa : Sg F a) (sb : Sg F b) (sc : Sg F c) :
    ∃ O : Ops, OpsOk O w mean mg mb Fo ∧ O.N news ∧ O.sgn a ∧ O.sgn b ∧ O.sgn c := by
  refine ⟨{ N := fun news => FormIn news Fo F, sgn := fun x => Sg F x, isN := fun x => decide (isNan F x), isI := fun x => decide (isInf F x), nan := nan F, two := fromInt F 2, neg := neg F, abs := absr F, floor := floorOf F, add := add F, mul := mul F, sub := sub F, cmp := cmpOf F }, ?_, hF, sa, sb, sc⟩
  constructor
  · exact fun p news h => h.cons
  · exact fun news news' h k => h.sub k
  · exact fun news x t h q => specB q (sp_nan h ok _ _)
  · exact fun news x t h q => specB q (sp_nan h ok _ _)
  · exact fun news x t h q => specB q (sp_inf h ok _ _)
  · exact fun news x t h q => specB q (sp_inf h ok _ _)
  · exact fun news h => sp_nan0 h ok
  · exact fun news x t h q => sp_neg h ok _ q
  · exact fun news x t h => sp_abs h ok _
  · exact fun news x y t u h p q => sp_cmp h ok _ _ (fun e => e.elim (df p) (df q))
  · exact fun news x y t u h p => sp_cmpN h ok _ _ (.inl (dt p))
  · exact fun news x y t u h p => sp_cmpN h ok _ _ (.inr (dt p))
  · exact fun news x t h p q => sp_floor h ok _ (fun e => e.elim (df p) (df q))
  · exact fun news x t h p => sp_floorN h ok _ (.inl (dt p))
  · exact fun news x t h p => sp_floorN h ok _ (.inr (dt p))
  · exact fun news t h => sp_fromi h ok _
  · exact fun news x y t u h p q => sp_add h ok _ _ p q
  · exact fun news x y t u h p q => sp_mul h ok _ _ p q
  · exact fun news x y t u h p q => sp_sub h ok _ _ p q
  · exact fun x => m_sg_neg ok
  · exact fun x => m_sg_abs ok x
  · exact m_sg_two ok
  · exact fun x y p q => m_sg_sub ok p q
  · exact m_add_comm
  · exact m_mul_comm
  · intro x h; show neg F x = nan F; unfold neg; rw [if_pos (dt h)]
  · intro x h; show absr F x = nan F; unfold absr; rw [if_pos (dt h)]
  · intro x y h; show add F x y = nan F; unfold add; rw [if_pos (.inl (dt h))]
  · exact fun x h => m_negneg ok (df h)
  · exact m_cmp_self
  · exact fun x h => decide_eq_false (m_abs_num ok (df h))
  · exact fun x h s => m_cmp_abs ok (df h) s
  · exact fun x h s => m_dbl ok (df h) s
  · exact fun x y h k s r n => m_sub ok (df h) (df k) s r n
  · exact fun x y h => cmp_turn h
  · exact fun x y h k i j s r n => m_floor ok (df h) (df k) (df i) (df j) s r n
  · exact fun x z h k i => decide_eq_false (m_add_num ok (df h) (df k) (df i))
  · exact fun x y z h k l i s r q n => m_add_mono ok (df h) (df k) (df l) (df i) s r q n
  · exact fun x y z h k l s r q n o p => m_mul_mono ok (df h) (df k) (df l) s r q n (fun e => e.elim (df o) (df p))
-- the law
theorem wd0 : True := by
  k_with_none
  trivial
theorem wd28 : True := by
  k_with "mine:sub" => (first | exact fun _ h => h | exact fun _ h => List.mem_cons_of_mem _ h | exact fun _ h => List.mem_cons_of_mem _ (List.mem_cons_of_mem _ h) | (intro p h9; simp only [List.mem_cons, h9, or_true]))
  trivial
theorem wd29 : True := by
  k_with "mine:side" => ((
      (case k1 => k_asm); (case k2 => k_asm); (case k3 => k_asm); (case k4 => k_asm); (case k5 => k_asm); (case kK => first | exact rfl | assumption); (case kC => walk_at "mine:spec"); (case kd => first | decide | exact room_d (by assumption) (by decide) | ktr_room | omega); (case ku => first | decide | exact room_u (by assumption) (by decide) | ktr_units | omega)))
  trivial
theorem wd30 : True := by
  k_with "call ref" => ((k_here; k_dflt (refine' SpecL.use ?k1 ?k2 ?k3 ?k4 ?k5 ?kK ?kl ?kC ?ki ?kf ?kd ?ku ?_; (case k1 => k_asm); (case k2 => k_asm); (case k3 => k_asm); (case k4 => k_asm); (case k5 => k_asm); (case kK => (first | exact rfl | assumption)); (case kl => k_asm); (case ki => assumption); (case kf => l_fit); (case kC => (with_reducible exact sp_lawat _ (by omega))); (case kd => first | decide | ktr_room | omega); (case ku => first | decide | ktr_units | omega)); intro t9 h9 tk9 F9 N9; (try dsimp only); (try k_fold)))
  trivial
theorem wd31 : True := by
  k_with "CompSrc" => ((k_here; k_dflt (refine LCg.CompSrc.ledger (by rfl) (by k_asm) (by k_asm) (by k_mem) (by first | size_fits | exact Nat.le_of_ble_eq_true rfl) ?_; intro g'; lcg_lit)))
  trivial
theorem wd32 : True := by
  k_with "call ref" => ((k_here; k_dflt (refine' SpecV.use ?k1 ?k2 ?k3 ?k4 ?k5 ?kK ?kC ?kd ?ku ?_; walk_at "mine:side"); intro t9 h9 tk9 F9 N9; (try dsimp only); (try k_fold)))
  trivial
theorem wd33 : True := by
  k_with "execs cons" => ((k_here; (with_reducible show wpAny _ _ (execs (Stmt.If _ _ _ _ :: _) _) _ _ _); (fail_if_success (have h9 : HoldOff := (by with_reducible assumption))); refine Hold.out ?_))
  trivial
theorem wd34 : True := by
  k_with "execs cons" => ((k_here; (with_reducible show wpAny _ _ (execs (Stmt.For _ _ _ _ _ :: _) _) _ _ _); (fail_if_success (have h9 : HoldOff := (by with_reducible assumption))); refine Hold.out ?_))
  trivial
theorem wd35 : True := by
  k_with "JoinQ" => (first
      | (refine JoinQ.ret ?_)
      | ((rename Fr _ _ _ _ => lF'); (rename News _ _ _ _ => lN'); refine JoinQ.next lF' lN' ?_; walk_at "mine:sub"))
  trivial
theorem wd36 : True := by
  k_with "mine:ops" => (first | with_reducible assumption | (with_reducible refine' OpsOk.cons ?o1 _ _ ?o2; (case o1 => with_reducible assumption); (case o2 => walk_at "mine:ops")))
  trivial
theorem wd37 : True := by
  k_with "mine:spec" => (first
      | ((with_reducible refine' OpsOk.c_sub ?o1 _ _ _ _ _ ?o2 ?p0 ?p1); (case o1 => with_reducible assumption); (case o2 => walk_at "mine:ops"); (case p0 => with_reducible assumption); (case p1 => with_reducible assumption))
      | ((with_reducible refine' OpsOk.c_mul ?o1 _ _ _ _ _ ?o2 ?p0 ?p1); (case o1 => with_reducible assumption); (case o2 => walk_at "mine:ops"); (case p0 => with_reducible assumption); (case p1 => with_reducible assumption))
      | ((with_reducible refine' OpsOk.c_add ?o1 _ _ _ _ _ ?o2 ?p0 ?p1); (case o1 => with_reducible assumption); (case o2 => walk_at "mine:ops"); (case p0 => with_reducible assumption); (case p1 => with_reducible assumption))
      | ((with_reducible refine' OpsOk.c_two ?o1 _ _ ?o2); (case o1 => with_reducible assumption); (case o2 => walk_at "mine:ops"))
      | ((with_reducible refine' OpsOk.c_floorN ?o1 _ _ _ ?o2 ?p0); (case o1 => with_reducible assumption); (case o2 => walk_at "mine:ops"); (case p0 => with_reducible assumption))
      | ((with_reducible refine' OpsOk.c_floorI ?o1 _ _ _ ?o2 ?p0); (case o1 => with_reducible assumption); (case o2 => walk_at "mine:ops"); (case p0 => with_reducible assumption))
      | ((with_reducible refine' OpsOk.c_floor ?o1 _ _ _ ?o2 ?p0 ?p1); (case o1 => with_reducible assumption); (case o2 => walk_at "mine:ops"); (case p0 => with_reducible assumption); (case p1 => with_reducible assumption))
      | ((with_reducible refine' OpsOk.c_cmpN2 ?o1 _ _ _ _ _ ?o2 ?p0); (case o1 => with_reducible assumption); (case o2 => walk_at "mine:ops"); (case p0 => with_reducible assumption))
      | ((with_reducible refine' OpsOk.c_cmpN1 ?o1 _ _ _ _ _ ?o2 ?p0); (case o1 => with_reducible assumption); (case o2 => walk_at "mine:ops"); (case p0 => with_reducible assumption))
      | ((with_reducible refine' OpsOk.c_cmp ?o1 _ _ _ _ _ ?o2 ?p0 ?p1); (case o1 => with_reducible assumption); (case o2 => walk_at "mine:ops"); (case p0 => with_reducible assumption); (case p1 => with_reducible assumption))
      | ((with_reducible refine' OpsOk.c_abs ?o1 _ _ _ ?o2); (case o1 => with_reducible assumption); (case o2 => walk_at "mine:ops"))
      | ((with_reducible refine' OpsOk.c_neg ?o1 _ _ _ ?o2 ?p0); (case o1 => with_reducible assumption); (case o2 => walk_at "mine:ops"); (case p0 => with_reducible assumption))
      | ((with_reducible refine' OpsOk.c_nan0 ?o1 _ ?o2); (case o1 => with_reducible assumption); (case o2 => walk_at "mine:ops"))
      | ((with_reducible refine' OpsOk.c_inf_f ?o1 _ _ _ ?o2 ?p0); (case o1 => with_reducible assumption); (case o2 => walk_at "mine:ops"); (case p0 => with_reducible assumption))
      | ((with_reducible refine' OpsOk.c_inf_t ?o1 _ _ _ ?o2 ?p0); (case o1 => with_reducible assumption); (case o2 => walk_at "mine:ops"); (case p0 => with_reducible assumption))
      | ((with_reducible refine' OpsOk.c_nan_f ?o1 _ _ _ ?o2 ?p0); (case o1 => with_reducible assumption); (case o2 => walk_at "mine:ops"); (case p0 => with_reducible assumption))
      | ((with_reducible refine' OpsOk.c_nan_t ?o1 _ _ _ ?o2 ?p0); (case o1 => with_reducible assumption); (case o2 => walk_at "mine:ops"); (case p0 => with_reducible assumption)))
  trivial
theorem wd38 : True := by
  k_with "mine:dec" => (first | exact notin01 (by assumption) | exact notin10 (by assumption) | exact nan3 (by with_reducible assumption) (by with_reducible assumption) (by with_reducible first | assumption) rfl | ((try simp only [bne_eq_false_iff_eq, bne_iff_ne, ne_eq, beq_iff_eq, beq_eq_false_iff_ne, decide_eq_true_eq, decide_eq_false_iff_not, Bool.not_eq_true', Bool.not_eq_false', List.cons.injEq, and_true, true_and, and_self, decide_true, decide_false, Bool.not_true, Bool.not_false]) <;> first | trivial | omega))
  trivial
theorem wd39 : True := by
  k_with "truthy bool" => (((fail_if_success (with_reducible show wpAny _ _ (truthy (Value.bool true)) _ _ _)); (fail_if_success (with_reducible show wpAny _ _ (truthy (Value.bool false)) _ _ _)); k_dflt (first | (refine truthy_is false (by walk_at "mine:dec") ?_) | (refine truthy_is true (by walk_at "mine:dec") ?_))))
  trivial
theorem wd40 : True := by
  k_with "mine:steps" => (repeat' ((fail_if_success (with_reducible refine Hold.mk ?_));  first | (k_dflt (refine' EndOk.use ?e9 ?f9; (case e9 => with_reducible assumption); (case f9 => k_asm))) | (k_unfold; (try dsimp only)) | ((with_reducible refine strip2 ?_); k_unfold; (try dsimp only)) | walk_at "mine:srend" | (k_end; kc_close) | walk1 | (dsimp only; walk1) | (leave1; try dsimp only) | fail "no step"))
  trivial
theorem wd41 : True := by
  k_with "pyIter ref" => (((rename News _ _ _ _ => nI9); (have hints := ints3 nI9); k_search (fun _ => True); (all_goals refine Hold.out ?_)))
  trivial
theorem wd42 : True := by
  k_with "JoinV" => (first
      | (refine JoinV.ret ?_)
      | ((rename Fr _ _ _ _ => lF'); (rename News _ _ _ _ => lN'); (with_reducible refine JoinV.stored lF' lN' ?_); walk_at "mine:sub")
      | ((rename Fr _ _ _ _ => lF'); (rename News _ _ _ _ => lN'); (with_reducible refine JoinV.stay lF' lN' ?_); walk_at "mine:sub"))
  trivial
theorem wd43 : True := by
  k_with "compareOp In none ref" => ((k_here; k_dflt (refine' in_m10N ?k1 ?k2 ?_; (case k1 => is_list); (case k2 => first | exact .inl rfl | exact .inr ⟨_, _, rfl, by with_reducible assumption⟩))))
  trivial
theorem wd44 : True := by
  k_with "compareOp In int ref" => ((k_here; k_dflt (refine' in_m10N ?k1 ?k2 ?_; (case k1 => is_list); (case k2 => first | exact .inl rfl | exact .inr ⟨_, _, rfl, by with_reducible assumption⟩))))
  trivial
theorem wd60 : True := by
  k_with "compareOp NotEq ref ref" => (k_here; k_dflt (refine' ne_intsK ?k1 ?k2 ?k3 ?k4 ?k5 ?_; (case k1 => (exact News.isList (by k_asm) (by first | exact List.Mem.head _ | exact List.Mem.tail _ (List.Mem.head _) | exact List.Mem.tail _ (List.Mem.tail _ (List.Mem.head _))))); (case k2 => (exact .cons _ _ (.cons _ _ (.cons _ _ .nil)))); (case k3 => (exact News.isList (by k_asm) (by first | exact List.Mem.head _ | exact List.Mem.tail _ (List.Mem.head _) | exact List.Mem.tail _ (List.Mem.tail _ (List.Mem.head _))))); (case k4 => (exact .cons _ _ (.cons _ _ (.cons _ _ .nil)))); (case k5 => units_room); k_whole); (try simp only [filter_tt]))
  trivial
theorem srm {h₀ : Heap} {L : Addr} {J : (Str → Option Value) → List (Addr × Obj) → Prop} {own : List (Addr × Obj)} {adr : List Addr} {s₁ s₂ : Shared} (h : InvEndN h₀ L J own adr s₁ s₂) : InvEndN h₀ L J own adr s₁ s₂ := h
theorem wd61 : True := by
  k_with "mine:srend" => ((with_reducible refine srm ?_); (rename News _ _ _ _ => nE'); (refine kst_end () (by assumption) nE' ?e1 ?e2 (by rfl) True.intro (List.forall_mem_nil _) ?e3 True.intro); (case e1 => (intro p hp; (first | exact List.mem_append_left _ hp | exact List.Mem.tail _ (List.mem_append_left _ hp) | exact List.Mem.tail _ (List.Mem.tail _ (List.mem_append_left _ hp)) | exact List.Mem.tail _ (List.Mem.tail _ (List.Mem.tail _ (List.mem_append_left _ hp))) | exact List.Mem.tail _ (List.Mem.tail _ (List.Mem.tail _ (List.Mem.tail _ (List.mem_append_left _ hp))))))); (case e2 => (intro p hp; (first | exact List.mem_append_right _ hp | exact List.Mem.tail _ (List.mem_append_right _ hp) | exact List.Mem.tail _ (List.Mem.tail _ (List.mem_append_right _ hp)) | exact List.Mem.tail _ (List.Mem.tail _ (List.Mem.tail _ (List.mem_append_right _ hp))) | exact List.Mem.tail _ (List.Mem.tail _ (List.Mem.tail _ (List.Mem.tail _ (List.mem_append_right _ hp))))))); (case e3 => kst_same))
  trivial
theorem form_hide {h₀ h : Heap} {L x d : Addr} {o p : Obj} {r : List (Addr × Obj)} {F : PForm} (hF : FormIn ((x, o) :: (d, p) :: r) x F) (N : News h₀ L h ((x, o) :: (d, p) :: r)) : ∃ o p, FormIn ((x, o) :: (d, p) :: r) x F ∧ News h₀ L h ((x, o) :: (d, p) :: r) := ⟨_, _, hF, N⟩
theorem st_anyH {α : Type} {M : Model} {A : Around} {T : Sem α} {Q : α → Shared → Prop} {E : Value → Shared → Prop} (s : Shared) {h₀ h : Heap} {L : Addr} {m : Str → Option Value} {t : Nat} (_ : Fr h₀ L h m) (k : ∀ tk, Hold (wpAny M A T Q E { s with heap := h, toks := tk })) : Hold (wpAny M A T Q E { s with heap := h, toks := t }) := k t
theorem form_sub {h₀ h : Heap} {L : Addr} {news news' : List (Addr × Obj)} {x : Addr} {F : PForm} (hF : FormIn news x F) (N : News h₀ L h news') (hs : ∀ p ∈ news, p ∈ news') : ∃ news, FormIn news x F ∧ News h₀ L h news := ⟨news', hF.sub hs, N⟩
theorem wd62 : True := by
  k_with "mine:in" => (first | exact .head _ | (refine List.Mem.tail _ ?_; walk_at "mine:in"))
  trivial
theorem wd64 : True := by
  k_with "execs cons" => (k_here; (with_reducible show wpAny _ _ (execs (_ :: _) _) _ _ (Shared.mk _ _ _ (_ + _) _)); (rename Shared => s9); (rename Fr _ _ _ _ => F9); (refine st_any s9 F9 ?_); intro tk9)
  trivial
theorem wd63 : True := by
  k_with "execs cons" => (k_here; (with_reducible show wpAny _ _ (execs (Stmt.Assign [Expr.Tuple _ _ _] (Expr.ListComp _ _ _ _) _ :: _) _) _ _ _); (fail_if_success (have h9 : HoldOff := (by with_reducible assumption))); refine Hold.out ?_)
  trivial
set_option maxHeartbeats 40000000 in
theorem law_holds : PySem.Challenge.rw_pq0747_01.Holds := Mine.hd (by
  w_on
  k_go0
  (all_goals try k_fold)
  rename Shared => s1
  have hend : EndOk s1 qk := by
    intro h tk L m F
    show GoodW _ _ _ _ _ (.ok (.ret (.bool true))) _
    refine goodW_bool F (by assumption) (raisesW_false ?_) ?_
    · wrow_none_raised
    · kc_post
  clear_value qk
  walk_at "mine:steps"
  as_aux_lemma =>
    rename List Int => ns
    rename World => ww
    rename News _ _ _ _ => lN'
    rename Fr _ _ _ _ => lF'
    obtain ⟨F, ok, hform0, hp⟩ := form_of ((lawAt ns 0).fmod 4) ((lawAt ns 1).fmod 6) lN' (by assumption) (by assumption) (by assumption) (by assumption) (by walk_at "mine:in") (by walk_at "mine:in")
    obtain ⟨o1, dO, hform, lN⟩ := form_hide hform0 lN'
    clear hform0 lN'
    replace hp := Hold.mk hp
    rename Shared => s1
    refine st_anyH s1 lF' ?_
    intro tk
    refine Hold.step ?_
    walk_at "mine:steps"
    as_aux_lemma =>
      rename Fr _ _ _ _ => lF'
      rename News _ _ _ _ => lN'
      generalize hA : (lawAt ns 2).fmod ((2 : Int) ^ (1 + (2 + (lawAt ns 0).fmod 4) + (1 + (lawAt ns 1).fmod 6)).toNat) = a at lF' lN'
      generalize hB : (lawAt ns 3).fmod ((2 : Int) ^ (1 + (2 + (lawAt ns 0).fmod 4) + (1 + (lawAt ns 1).fmod 6)).toNat) = b at lF' lN'
      generalize hC : (lawAt ns 4).fmod ((2 : Int) ^ (1 + (2 + (lawAt ns 0).fmod 4) + (1 + (lawAt ns 1).fmod 6)).toNat) = c at lF' lN'
      obtain ⟨news2, hform2, lN⟩ := form_sub hform lN' (by walk_at "mine:sub")
      obtain ⟨O, hO, hON, sa, sb, sc⟩ := ops_of ok ww (by assumption) hform2 (hA ▸ fmod_sg ok hp.out : Sg F a) (hB ▸ fmod_sg ok hp.out : Sg F b) (hC ▸ fmod_sg ok hp.out : Sg F c)
      clear hA hB hC hform hform2 hp ok
      obtain ⟨m0, lF⟩ := fr_base lF'
      clear lN' lF'
      have lN' := lN
      have lF' := lF
      clear lN lF
      refine execs_join lF' lN' ?_ ?_
      · as_aux_lemma =>
          have hadd := hO.add_comm a b
          have hmul := hO.mul_comm a b
          walk_at "mine:steps"
      intro h9 tk9 F9 N9
      clear lF' lN'
      walk_at "mine:steps"
      as_aux_lemma =>
        refine Hold.step ?_
        walk_at "mine:steps"
        · as_aux_lemma =>
            rename OpsOk _ _ _ _ _ _ => hO
            rename IntsAre [_, _, _] _ => hI9
            clear hI9
            have sx : O.sgn kN := mem3 kMem (by assumption) (by assumption) (by assumption)
            have hOff : HoldOff := ⟨⟩
            rename News _ _ _ _ => kNw
            have hON2 := ops_sub hO (by assumption) kNw (fun p hp => List.mem_cons_of_mem _ (List.mem_append_left _ hp))
            refine Hold.step ?_
            cases hn : O.isN kN
            · as_aux_lemma =>
                have e1 := hO.neg_neg _ hn
                have e2 := hO.sg_neg _ sx
                have e3 := hO.sg_two
                have e4 := hO.cmp_self kN
                have e5 := hO.abs_num _ hn
                have e6 := hO.cmp_abs _ hn sx
                have e7 := hO.dbl _ hn sx
                walk_at "mine:steps"
            · as_aux_lemma =>
                have e1 := hO.neg_nan _ hn
                have e2 := hO.abs_nan _ hn
                have e3 := hO.add_nan _ c hn
                walk_at "mine:steps"
        · as_aux_lemma =>
            rename OpsOk _ _ _ _ _ _ => hO
            rename IntsAre [_, _, _] _ => hI9
            clear hI9
            rename News _ _ _ _ => kNw
            have hON2 := ops_sub hO hON kNw (fun p hp => List.mem_cons_of_mem _ hp)
            refine Hold.mk ?_
            dsimp only
            cases hna : O.isN a
            rotate_left
            · as_aux_lemma =>
                walk_at "mine:steps"
                refine Hold.step ?_
                walk_at "mine:steps"
            cases hnb : O.isN b
            rotate_left
            · as_aux_lemma =>
                walk_at "mine:steps"
                refine Hold.step ?_
                walk_at "mine:steps"
            walk_at "mine:steps"
            refine Hold.step ?_
            walk_at "mine:steps"
            rename Fr _ _ _ _ => lF'
            rename News _ _ _ _ => lN'
            refine Hold.mk (execs_joinV (Str.ofString "turned_back") lF' lN' ?_ ?_)
            · as_aux_lemma =>
                by_cases h0 : O.cmp a b = 0
                · walk_at "mine:steps"
                · have t1 := hO.turn a b hna hnb sa sb h0
                  have t2 := hO.sg_sub b a sb sa
                  have hOff : HoldOff := ⟨⟩
                  walk_at "mine:steps"
            as_aux_lemma =>
              intro vt ht tkt lF' lN'
              refine execs_joinP (Str.ofString "low") (Str.ofString "high") (fun x y => O.isN x = false ∧ O.isN y = false ∧ O.sgn x ∧ O.sgn y ∧ O.cmp x y ≤ 0) lF' lN' ?_ ?_
              · as_aux_lemma =>
                  by_cases h0 : O.cmp a b ≤ 0
                  · walk_at "mine:steps"
                    rename Fr _ _ _ _ => kF'
                    rename News _ _ _ _ => kN'
                    exact JoinP.mk kF' kN' (by walk_at "mine:sub") ⟨hna, hnb, sa, sb, h0⟩
                  · walk_at "mine:steps"
                    rename Fr _ _ _ _ => kF'
                    rename News _ _ _ _ => kN'
                    exact JoinP.mk kF' kN' (by walk_at "mine:sub") ⟨hnb, hna, sb, sa, hO.cmp_turn _ _ h0⟩
              clear lF' lN'
              intro lo hi tlo thi hp tkp ⟨hnl, hnh, sl, sh, hle⟩ lF' lN'
              clear sa sb hna hnb
              refine execs_joinS (Str.ofString "one") (fun v => (O.isI lo = true ∧ v = Value.none) ∨ (O.isI lo = false ∧ ∃ t, v = Value.int (O.floor lo) t)) lF' lN' ?_ ?_
              · as_aux_lemma =>
                  cases hi : O.isI lo
                  · walk_at "mine:steps"
                    rename Fr _ _ _ _ => kF'
                    rename News _ _ _ _ => kN'
                    exact JoinS.mk kF' kN' (by walk_at "mine:sub") (.inr ⟨by first | rfl | trivial, _, rfl⟩)
                  · walk_at "mine:steps"
                    rename Fr _ _ _ _ => kF'
                    rename News _ _ _ _ => kN'
                    exact JoinS.mk kF' kN' (by walk_at "mine:sub") (.inl ⟨by first | rfl | trivial, rfl⟩)
              clear lF' lN'
              intro v1 h1 tk1 p1 lF' lN'
              refine execs_joinS (Str.ofString "two") (fun v => (O.isI hi = true ∧ v = Value.none) ∨ (O.isI hi = false ∧ ∃ t, v = Value.int (O.floor hi) t)) lF' lN' ?_ ?_
              · as_aux_lemma =>
                  cases hi : O.isI hi
                  · walk_at "mine:steps"
                    rename Fr _ _ _ _ => kF'
                    rename News _ _ _ _ => kN'
                    exact JoinS.mk kF' kN' (by walk_at "mine:sub") (.inr ⟨by first | rfl | trivial, _, rfl⟩)
                  · walk_at "mine:steps"
                    rename Fr _ _ _ _ => kF'
                    rename News _ _ _ _ => kN'
                    exact JoinS.mk kF' kN' (by walk_at "mine:sub") (.inl ⟨by first | rfl | trivial, rfl⟩)
              clear lF' lN'
              intro v2 h2 tk2 p2 lF' lN'
              as_aux_lemma =>
                refine Hold.out (execs_join lF' lN' ?_ ?_)
                · as_aux_lemma =>
                    have hOff : HoldOff := ⟨⟩
                    rcases p1 with ⟨i1, rfl⟩ | ⟨i1, t1, rfl⟩ <;> rcases p2 with ⟨i2, rfl⟩ | ⟨i2, t2, rfl⟩
                    · walk_at "mine:steps"
                    · walk_at "mine:steps"
                    · walk_at "mine:steps"
                    · have hfl := hO.floor_mono _ _ hnl hnh i1 i2 sl sh hle
                      walk_at "mine:steps"
                clear lF' lN'
                intro h3 tk3 lF' lN'
                cases hnc : O.isN c
                rotate_left
                · as_aux_lemma =>
                    refine wpAny_execs_cons ?_
                    walk_at "mine:steps"
                refine wpAny_execs_cons ?_
                walk_at "mine:steps"
                clear lF' lN'
                rename Fr _ _ _ _ => lF'
                rename News _ _ _ _ => lN'
                as_aux_lemma =>
                  refine Hold.mk (Hold.out (execs_join lF' lN' ?_ ?_))
                  · as_aux_lemma =>
                      have hOff : HoldOff := ⟨⟩
                      cases hic : O.isI c
                      · have e1 := hO.add_num lo c hnl hnc hic
                        have e2 := hO.add_num hi c hnh hnc hic
                        have e3 := hO.add_mono lo hi c hnl hnh hnc hic sl sh sc hle
                        walk_at "mine:steps"
                      · walk_at "mine:steps"
                  clear lF' lN'
                  intro h4 tk4 lF' lN'
                  as_aux_lemma =>
                    have hab := hO.sg_abs c
                    cases hm1 : O.isN (O.mul lo (O.abs c))
                    rotate_left
                    · as_aux_lemma =>
                        walk_at "mine:steps"
                    cases hm2 : O.isN (O.mul hi (O.abs c))
                    rotate_left
                    · as_aux_lemma =>
                        walk_at "mine:steps"
                    have hmm := hO.mul_mono lo hi c hnl hnh hnc sl sh sc hle hm1 hm2
                    walk_at "mine:steps")
end Mine
theorem PySem.Challenge.cw_pq0747_01_holds : PySem.Challenge.rw_pq0747_01.Holds := by
  exact Mine.law_holds
