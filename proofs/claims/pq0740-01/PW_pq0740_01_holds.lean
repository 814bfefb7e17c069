import PyProof.Rows.All
import Wide.All
import OpenK.AllK
import Wide.FinOn
import Lean
import PySem.Challenge.RW_pq0740_01
open PySem PySem.W PyProof.Rows PySem.Calls
set_option Elab.async false
set_option maxRecDepth 100000
set_option maxHeartbeats 8000000
set_option rowWalk.seconds 0
namespace Mine
open_top hd for PySem.Challenge.rw_pq0740_01
section
abbrev F3 := Int × Int × Int
def pidx (n : Int) : Int := match (List.range 32).find? (fun k => (2 : Int) ^ k == n) with
  | some k => k
  | none => -1
def dat (f : F3) : Dat := .tuple [.int f.1, .int f.2.1, .int f.2.2]
def fsum (c f : Int) : Option F3 :=
  if 0 ≤ pidx ((c - 2 ^ f.toNat).fmod 4294967296) ∧ pidx ((c - 2 ^ f.toNat).fmod 4294967296) < f then some (f, 1, pidx ((c - 2 ^ f.toNat).fmod 4294967296)) else none
def fdif (c f : Int) : Option F3 :=
  if 0 ≤ pidx ((2 ^ f.toNat - c).fmod 4294967296) then some (f, -1, pidx ((2 ^ f.toNat - c).fmod 4294967296)) else none
def tt (c : Int) : List F3 := (rangeKs 0 32).filterMap (fsum c) ++ (rangeKs 0 33).filterMap (fdif c)
def cost (f : F3) : Int := if f.2.1 = 0 then 1 else 1 + (if 0 < f.1 then 1 else 0) + (if 0 < f.2.2 then 1 else 0)
def fval (f : F3) : Int := ((2 ^ f.1.toNat) + f.2.1 * 2 ^ f.2.2.toNat).fmod 4294967296
def okF (f : F3) : Prop := 0 ≤ f.1 ∧ f.1 ≤ 32 ∧ (f.2.1 = -1 ∨ f.2.1 = 0 ∨ f.2.1 = 1) ∧ 0 ≤ f.2.2 ∧ f.2.2 ≤ 32
def one (c : Int) : Option F3 :=
  if c.fmod 4294967296 = 0 then some (32, 0, 0) else
  if pidx (c.fmod 4294967296) < 0 then none else some (pidx (c.fmod 4294967296), 0, 0)
def better (b : Option F3) (f : F3) : Option F3 :=
  match b with
  | none => some f
  | some g => if cost f < cost g then some f else some g
def lf (c : Int) : Option F3 :=
  match one c with
  | some f => some f
  | none => (tt c).foldl better none
/-- a contract whose call may leave objects behind -/
structure Con (D : Type) where
  Rel : List (Addr × Obj) → List Value → D → Prop
  Ok : D → Prop
  size : Nat
  Out : List (Addr × Obj) → Value → D → Prop
def Tel {D : Type} (w : World) (p : Program) (loose : List Str) (mean : ExcName → Option Value) (mg mb : Str → Option Value) (f : Addr) (c : Con D) (d : D) : Prop :=
  ∀ (dp un : Nat) (gd : Option (List Code)) (cn : Str) (cs : Scope) (a : Addr) (ccd : Value) (cl : List (Str × Addr)) (outer : List Env) (A₀ : Around) (base h₀ : Heap) (L : Addr) (m : Str → Option Value) (news : List (Addr × Obj)) (s : Shared) (vs : List Value)
    (Q E : Value → Shared → Prop),
    Below A₀ base outer h₀ → Fr h₀ L s.heap m → (hd.heap_39 w.params).In h₀ → News h₀ L s.heap news → Top p loose mean mg mb h₀ → cs.kind = .function → c.Rel news vs d → c.Ok d → dp + c.size < recursionLimit → un + 8 * c.size < cLine →
    (∀ r tl h' tk', Fr h₀ L h' m → News h₀ L h' (news ++ tl) → OwnOff tl (news.map (·.1)) → c.Out (news ++ tl) r d → Q r { s with heap := h', toks := tk' }) →
    wpAny (model PySem.Challenge.rw_pq0740_01.row.prog w) (ktrTop dp un gd cn cs L a ccd cl outer) (call (.ref f) vs) Q E s
theorem tel_use {D : Type} {w : World} {p : Program} {loose : List Str} {mean : ExcName → Option Value} {mg mb : Str → Option Value} {f : Addr} {c : Con D} {d : D} {dp un : Nat} {gd : Option (List Code)} {cn : Str} {cs : Scope} {a : Addr} {ccd : Value} {cl : List (Str × Addr)} {outer : List Env} {A₀ : Around} {base h₀ : Heap} {L : Addr} {m : Str → Option Value} {news : List (Addr × Obj)} {s : Shared} {vs : List Value}
    {Q E : Value → Shared → Prop} (B : Below A₀ base outer h₀) (F : Fr h₀ L s.heap m) (X : (hd.heap_39 w.params).In h₀) (N : News h₀ L s.heap news) (T : Top p loose mean mg mb h₀) (hk : cs.kind = .function) (R : c.Rel news vs d) (C : Tel w p loose mean mg mb f c d) (ok : c.Ok d)
    (hd : dp + c.size < recursionLimit) (hu : un + 8 * c.size < cLine)
    (ret : ∀ r tl h' tk', Fr h₀ L h' m → News h₀ L h' (news ++ tl) → OwnOff tl (news.map (·.1)) → c.Out (news ++ tl) r d → Q r { s with heap := h', toks := tk' }) :
    wpAny (model PySem.Challenge.rw_pq0740_01.row.prog w) (ktrTop dp un gd cn cs L a ccd cl outer) (call (.ref f) vs) Q E s := C _ _ _ _ _ _ _ _ _ _ _ _ _ _ _ _ _ _ _ B F X N T hk R ok hd hu ret
inductive PiRel (news : List (Addr × Obj)) : List Value → Int → Prop
  | mk (n : Int) (t : Tok) : PiRel news [.int n t] n
abbrev piT : ToldN Int where
  Rel := PiRel
  Ok := fun n => 0 ≤ n ∧ n < 4294967296
  size := fun _ => 1
  Tl := fun tl => tl = []
  Out := fun _ r n => ∃ t, r = .int (pidx n) t
theorem fmod_ok (x : Int) : 0 ≤ x.fmod 4294967296 ∧ x.fmod 4294967296 < 4294967296 := by
  rw [Int.fmod_eq_emod_of_nonneg _ (by decide)]; omega
inductive F3Rel (news : List (Addr × Obj)) : List Value → F3 → Prop
  | mk {a : Addr} {x y z : Int} {t1 t2 t3 : Tok} {n : Nat} : (a, ({ cls := .type "tuple", data := .seq #[.int x t1, .int y t2, .int z t3] n } : Obj)) ∈ news → F3Rel news [.ref a] (x, y, z)
abbrev fcT : ToldN F3 where
  Rel := F3Rel
  Ok := okF
  size := fun _ => 1
  Tl := fun tl => tl = []
  Out := fun _ r f => ∃ t, r = .int (cost f) t
abbrev fvT : ToldN F3 where
  Rel := F3Rel
  Ok := okF
  size := fun _ => 1
  Tl := fun tl => tl = []
  Out := fun _ r f => ∃ t, r = .int (fval f) t
inductive IsTT (c : Int) (ds : List Dat) : Prop
  | mk : ds = (tt c).map dat → IsTT c ds
theorem IsTT.eq {c : Int} {ds : List Dat} (h : IsTT c ds) : ds = (tt c).map dat := by cases h; assumption
inductive TtOut (nx : List (Addr × Obj)) : Value → Int → Prop
  | mk {l : Addr} {vs : List Value} {n : Nat} {c : Int} {ds : List Dat} : (l, listOf vs.toArray n) ∈ nx → DatAll nx vs ds → IsTT c ds → TtOut nx (.ref l) c
abbrev ttT : Con Int where
  Rel := PiRel
  Ok := fun _ => True
  size := 2
  Out := TtOut
def odat : Option F3 → Dat
  | none => .none
  | some f => dat f
abbrev lfT : Con Int where
  Rel := PiRel
  Ok := fun _ => True
  size := 3
  Out := fun nx r c => DatIn nx r (odat (lf c))
end
section
/-- the next digit, and what is left -/
def dig (r : Int) : Int := if r.fmod 2 = 1 then 2 - r.fmod 4 else 0
def nxt (r : Int) : Int := (r - dig r).fdiv 2
/-- the digits, at most k of them -/
def digs : Nat → Int → List Int
  | 0, _ => []
  | k + 1, r => if r = 0 then [] else dig r :: digs k (nxt r)
/-- found behind some turns, and what is left -/
inductive DG (n : Int) (found : List Int) (rest : Int) : Prop
  | mk : found.length ≤ 32 → digs 32 n = found ++ digs (32 - found.length) rest → DG n found rest
def DgT (w : World) (p : Program) (loose : List Str) (mean : ExcName → Option Value) (mg mb : Str → Option Value) (d : Int) : Prop :=
  ∀ (dp un : Nat) (gd : Option (List Code)) (cn : Str) (cs : Scope) (a : Addr) (ccd : Value) (cl : List (Str × Addr)) (outer : List Env) (A₀ : Around) (base h₀ : Heap) (L : Addr) (m : Str → Option Value) (news : List (Addr × Obj)) (s : Shared) (td : Tok)
    (Q E : Value → Shared → Prop),
    Below A₀ base outer h₀ → Fr h₀ L s.heap m → (hd.heap_39 w.params).In h₀ → News h₀ L s.heap news → Top p loose mean mg mb h₀ → cs.kind = .function → dp + 1 < recursionLimit → un + 8 < cLine →
    (∀ l o vs n h' tk', Fr h₀ L h' m → News h₀ L h' ((l, o) :: news) → o.cls = .type "list" → o.data = .seq (List.toArray vs) n → IntsAre vs ((digs 32 d).filter (fun a => a != 0)) → Q (.ref l) { s with heap := h', toks := tk' }) →
    wpAny (model PySem.Challenge.rw_pq0740_01.row.prog w) (ktrTop dp un gd cn cs L a ccd cl outer) (call (.ref 89) [.int d td]) Q E s
theorem dg_use {w : World} {p : Program} {loose : List Str} {mean : ExcName → Option Value} {mg mb : Str → Option Value} {d : Int} {dp un : Nat} {gd : Option (List Code)} {cn : Str} {cs : Scope} {a : Addr} {ccd : Value} {cl : List (Str × Addr)} {outer : List Env} {A₀ : Around} {base h₀ : Heap} {L : Addr} {m : Str → Option Value} {news : List (Addr × Obj)} {s : Shared} {td : Tok}
    {Q E : Value → Shared → Prop} (B : Below A₀ base outer h₀) (F : Fr h₀ L s.heap m) (X : (hd.heap_39 w.params).In h₀) (N : News h₀ L s.heap news) (T : Top p loose mean mg mb h₀) (hk : cs.kind = .function) (C : DgT w p loose mean mg mb d)
    (hd : dp + 1 < recursionLimit) (hu : un + 8 < cLine)
    (ret : ∀ l o vs n h' tk', Fr h₀ L h' m → News h₀ L h' ((l, o) :: news) → o.cls = .type "list" → o.data = .seq (List.toArray vs) n → IntsAre vs ((digs 32 d).filter (fun a => a != 0)) → Q (.ref l) { s with heap := h', toks := tk' }) :
    wpAny (model PySem.Challenge.rw_pq0740_01.row.prog w) (ktrTop dp un gd cn cs L a ccd cl outer) (call (.ref 89) [.int d td]) Q E s := C _ _ _ _ _ _ _ _ _ _ _ _ _ _ _ _ _ _ _ B F X N T hk hd hu ret
def chk (ds : List Int) : Bool := decide (ds.length < 2) || (decide (ds.length = 2) && decide (ds ≠ [-1, -1]))
def nzd (n : Int) : List Int := (digs 32 n).filter (fun a => a != 0)
def hasF (c : Int) : Bool := chk (nzd (c.fmod 4294967296)) || chk (nzd (c.fmod 4294967296 - 4294967296))
abbrev hfT : ToldN Int where
  Rel := PiRel
  Ok := fun _ => True
  size := fun _ => 12
  Tl := fun tl => tl = []
  Out := fun _ r c => r = .bool (hasF c)
end
section
theorem two_pos (k : Nat) : (0 : Int) < 2 ^ k := Int.pow_pos (by decide)
theorem two_mono {a b : Nat} (h : a ≤ b) : (2 : Int) ^ a ≤ 2 ^ b := by
  have := Nat.pow_le_pow_right (n := 2) (by decide) h
  rw [← kbt_cast, ← kbt_cast]
  exact_mod_cast this
theorem two_lt {a b : Nat} (h : (2 : Int) ^ a < 2 ^ b) : a < b := by
  refine Nat.lt_of_not_le fun q => ?_
  have := two_mono q
  omega
theorem two_inj {a b : Nat} (h : (2 : Int) ^ a = 2 ^ b) : a = b := by
  rcases Nat.lt_trichotomy a b with q | q | q
  · have := two_mono (show a + 1 ≤ b from q)
    rw [Int.pow_succ] at this
    have := two_pos a
    omega
  · exact q
  · have := two_mono (show b + 1 ≤ a from q)
    rw [Int.pow_succ] at this
    have := two_pos b
    omega
theorem pidx_pow {k : Nat} (h : k < 32) : pidx (2 ^ k) = (k : Int) := by
  unfold pidx
  have e : (List.range 32).find? (fun j => (2 : Int) ^ j == 2 ^ k) = some k := by
    rw [List.find?_range_eq_some]
    refine ⟨by simp, by simpa using h, fun j hj => ?_⟩
    have : (2 : Int) ^ j ≠ 2 ^ k := fun q => by have := two_inj q; omega
    simpa using this
  rw [e]
theorem pidx_cases (n : Int) : (∃ k : Nat, k < 32 ∧ n = 2 ^ k ∧ pidx n = (k : Int)) ∨ (pidx n = -1 ∧ ∀ k : Nat, k < 32 → n ≠ 2 ^ k) := by
  by_cases h : ∃ k : Nat, k < 32 ∧ n = 2 ^ k
  · obtain ⟨k, hk, rfl⟩ := h
    exact .inl ⟨k, hk, rfl, pidx_pow hk⟩
  · refine .inr ⟨?_, fun k hk e => h ⟨k, hk, e⟩⟩
    unfold pidx
    have e : (List.range 32).find? (fun j => (2 : Int) ^ j == n) = none := by
      rw [List.find?_eq_none]
      intro j hj q
      exact h ⟨j, by simpa using hj, (by simpa using q : (2:Int)^j = n).symm⟩
    rw [e]
theorem pidx_zero : pidx 0 = -1 := by
  rcases pidx_cases 0 with ⟨k, _, e, _⟩ | h
  · have := two_pos k; omega
  · exact h.1
theorem and_iff {n : Int} (h : 0 < n) : Builtin.bitAnd n (n - 1) = 0 ↔ ∃ k : Nat, n = 2 ^ k := by
  rw [bitAnd_pp (by omega) (by omega)]
  have e : (n - 1).toNat = n.toNat - 1 := by omega
  rw [e]
  have := @Nat.and_sub_one_eq_zero_iff_isPowerOfTwo n.toNat (by omega)
  constructor
  · intro q
    have q' : n.toNat &&& (n.toNat - 1) = 0 := by exact_mod_cast q
    obtain ⟨k, hk⟩ := this.mp q'
    exact ⟨k, by rw [← kbt_cast, ← hk]; omega⟩
  · rintro ⟨k, hk⟩
    have q : n.toNat.isPowerOfTwo := ⟨k, by have := kbt_cast k; omega⟩
    exact_mod_cast this.mpr q
theorem pidx_no {n : Int} (h0 : 0 ≤ n) (h : Builtin.bitAnd n (n - 1) ≠ 0) : pidx n = -1 := by
  rcases pidx_cases n with ⟨k, _, e, _⟩ | q
  · have := two_pos k
    exact absurd ((and_iff (by omega)).mpr ⟨k, e⟩) h
  · exact q.1
def PInv (n p : Int) : Prop := 0 ≤ p ∧ p ≤ 32 ∧ (p = 0 ∨ (2 : Int) ^ (p - 1).toNat < n)
theorem pinv_start (n : Int) : PInv n 0 := ⟨by decide, by decide, .inl rfl⟩
theorem pinv_small {n p : Int} (hn : n < 4294967296) (h : PInv n p) (ht : 1 * 2 ^ p.toNat < n) : p < 32 := by
  rw [Int.one_mul] at ht
  have e : (4294967296 : Int) = 2 ^ 32 := by decide
  rw [e] at hn
  have := two_lt (Int.lt_trans ht hn)
  omega
theorem pinv_step {n p : Int} (hn : n < 4294967296) (h : PInv n p) (ht : 1 * 2 ^ p.toNat < n) : PInv n (p + 1) := by
  have := pinv_small hn h ht
  rw [Int.one_mul] at ht
  refine ⟨by have := h.1; omega, by omega, .inr ?_⟩
  have e : p + 1 - 1 = p := by omega
  rw [e]; exact ht
theorem pinv_less {n p : Int} (hn : n < 4294967296) (h : PInv n p) (ht : 1 * 2 ^ p.toNat < n) : (32 - (p + 1)).toNat < (32 - p).toNat := by
  have := pinv_small hn h ht
  omega
theorem pinv_end {n p : Int} (h0 : 0 ≤ n) (hz : n ≠ 0) (hn : n < 4294967296) (ha : Builtin.bitAnd n (n - 1) = 0) (h : PInv n p) (ht : ¬ 1 * 2 ^ p.toNat < n) : p = pidx n := by
  obtain ⟨k, rfl⟩ := (and_iff (by omega)).mp ha
  rw [Int.one_mul] at ht
  have e : (4294967296 : Int) = 2 ^ 32 := by decide
  rw [e] at hn
  rw [pidx_pow (two_lt hn)]
  have h1 : ¬ p.toNat < k := fun q => by
    have := two_mono (show p.toNat + 1 ≤ k from q)
    rw [Int.pow_succ] at this
    have := two_pos p.toNat
    omega
  rcases h.2.2 with q | q
  · omega
  · have := two_lt q
    have := h.1
    omega
end
section
theorem w_emod (x : Int) : x.fmod 4294967296 = x % 4294967296 := Int.fmod_eq_emod_of_nonneg _ (by decide)
theorem pow32' : (2 : Int) ^ Int.toNat 32 = 4294967296 := by decide
theorem mem_rk {n : Nat} {k : Int} (h : k ∈ rangeKs 0 n) : 0 ≤ k ∧ k < n := by
  have := mem_rangeKs h
  omega
theorem pidx_nonneg {n : Int} (h : 0 ≤ pidx n) : ∃ k : Nat, k < 32 ∧ n = 2 ^ k ∧ pidx n = (k : Int) := by
  rcases pidx_cases n with q | q
  · exact q
  · omega
theorem fsum_some {c f : Int} {g : F3} (h : fsum c f = some g) : g.1 = f ∧ g.2.1 = 1 ∧ g.2.2 < f ∧ ∃ k : Nat, k < 32 ∧ g.2.2 = (k : Int) ∧ (c - 2 ^ f.toNat) % 4294967296 = 2 ^ k := by
  unfold fsum at h
  split at h
  · rename_i q
    cases h
    obtain ⟨k, hk, e1, e2⟩ := pidx_nonneg q.1
    refine ⟨rfl, rfl, q.2, k, hk, e2, ?_⟩
    rw [← w_emod]; exact e1
  · cases h
theorem fdif_some {c f : Int} {g : F3} (h : fdif c f = some g) : g.1 = f ∧ g.2.1 = -1 ∧ ∃ k : Nat, k < 32 ∧ g.2.2 = (k : Int) ∧ (2 ^ f.toNat - c) % 4294967296 = 2 ^ k := by
  unfold fdif at h
  split at h
  · rename_i q
    cases h
    obtain ⟨k, hk, e1, e2⟩ := pidx_nonneg q
    refine ⟨rfl, rfl, k, hk, e2, ?_⟩
    rw [← w_emod]; exact e1
  · cases h
theorem tt_mem {c : Int} {g : F3} (h : g ∈ tt c) : (∃ f, 0 ≤ f ∧ f < 32 ∧ fsum c f = some g) ∨ (∃ f, 0 ≤ f ∧ f < 33 ∧ fdif c f = some g) := by
  unfold tt at h
  rcases List.mem_append.mp h with h | h
  · obtain ⟨f, hf, e⟩ := List.mem_filterMap.mp h
    have := mem_rk hf
    exact .inl ⟨f, this.1, this.2, e⟩
  · obtain ⟨f, hf, e⟩ := List.mem_filterMap.mp h
    have := mem_rk hf
    exact .inr ⟨f, this.1, this.2, e⟩
theorem tt_ok {c : Int} : ∀ f ∈ tt c, okF f := by
  intro g hg
  rcases tt_mem hg with ⟨f, h0, h1, e⟩ | ⟨f, h0, h1, e⟩
  · obtain ⟨a, b, _, k, hk, e2, _⟩ := fsum_some e
    exact ⟨by omega, by omega, .inr (.inr b), by omega, by omega⟩
  · obtain ⟨a, b, k, hk, e2, _⟩ := fdif_some e
    exact ⟨by omega, by omega, .inl b, by omega, by omega⟩
/-- a form's value -/
theorem m7a {c : Int} {f : F3} (h : f ∈ tt c) : fval f = c.fmod (2 ^ Int.toNat 32) := by
  rw [pow32', w_emod]
  unfold fval
  rw [w_emod]
  rcases tt_mem h with ⟨f', h0, h1, e⟩ | ⟨f', h0, h1, e⟩
  · obtain ⟨a, b, _, k, hk, e2, e3⟩ := fsum_some e
    rw [a, b, e2, Int.toNat_natCast]
    omega
  · obtain ⟨a, b, k, hk, e2, e3⟩ := fdif_some e
    rw [a, b, e2, Int.toNat_natCast]
    omega
theorem one_some {c : Int} {f : F3} (h : one c = some f) : okF f ∧ cost f = 1 ∧ fval f = c.fmod 4294967296 := by
  unfold one at h
  split at h
  · rename_i q
    cases h
    exact ⟨⟨by decide, by decide, .inr (.inl rfl), by decide, by decide⟩, rfl, by rw [q]; decide⟩
  · split at h
    · cases h
    · rename_i q
      cases h
      obtain ⟨k, hk, e1, e2⟩ := pidx_nonneg (by omega : 0 ≤ pidx (c.fmod 4294967296))
      refine ⟨⟨by dsimp only; omega, by dsimp only; omega, .inr (.inl rfl), by dsimp only; omega, by dsimp only; omega⟩, rfl, ?_⟩
      unfold fval
      dsimp only
      rw [e2, Int.toNat_natCast, Int.zero_mul, Int.add_zero, e1, w_emod, ← e1, w_emod]
      omega
theorem foldl_better : ∀ (fs : List F3) (b : Option F3), (∀ g, fs.foldl better b = some g → g ∈ fs ∨ b = some g) ∧ (fs.foldl better b = none → fs = [] ∧ b = none) ∧
    (∀ g, fs.foldl better b = some g → (∀ h ∈ fs, ¬ cost h < cost g) ∧ ∀ h, b = some h → ¬ cost h < cost g)
  | [], b => ⟨fun g e => .inr e, fun e => ⟨rfl, e⟩, fun g e => ⟨fun _ h => (nomatch h), fun h e2 => by
      have e3 : b = some g := e
      rw [e3] at e2; cases e2; omega⟩⟩
  | f :: r, b => by
    obtain ⟨h1, h2, h3⟩ := foldl_better r (better b f)
    have key : better b f = some f ∨ ∃ g, b = some g ∧ better b f = some g ∧ ¬ cost f < cost g := by
      cases b with
      | none => exact .inl rfl
      | some g =>
        by_cases hc : cost f < cost g
        · exact .inl (by unfold better; simp only [if_pos hc])
        · exact .inr ⟨g, rfl, by unfold better; simp only [if_neg hc], hc⟩
    have key2 : ∀ h, b = some h → better b f = some f → ¬ cost h < cost f := by
      intro h eb e2
      subst eb
      unfold better at e2
      dsimp only at e2
      split at e2
      · omega
      · cases e2; omega
    refine ⟨fun g e => ?_, fun e => ?_, fun g e => ⟨fun h hh => ?_, fun h hb => ?_⟩⟩
    · rcases h1 g e with q | q
      · exact .inl (.tail _ q)
      · rcases key with k | ⟨g', k1, k2, _⟩
        · rw [k] at q; cases q; exact .inl (.head _)
        · rw [k2] at q; cases q; exact .inr k1
    · obtain ⟨_, q⟩ := h2 e
      rcases key with k | ⟨g', k1, k2, _⟩
      · rw [k] at q; cases q
      · rw [k2] at q; cases q
    · obtain ⟨q1, q2⟩ := h3 g e
      rcases List.mem_cons.mp hh with rfl | hh
      · rcases key with k | ⟨g', k1, k2, k3⟩
        · exact q2 _ k
        · have := q2 _ k2; omega
      · exact q1 h hh
    · obtain ⟨q1, q2⟩ := h3 g e
      rcases key with k | ⟨g', k1, k2, k3⟩
      · have a := q2 _ k
        have b := key2 h hb k
        omega
      · rw [hb] at k1; cases k1
        exact q2 _ k2
theorem cost_pos {f : F3} : 1 ≤ cost f := by
  unfold cost
  (repeat' split) <;> omega
theorem lf_ok {c : Int} {f : F3} (h : lf c = some f) : okF f := by
  unfold lf at h
  split at h
  · rename_i g e
    cases h
    exact (one_some e).1
  · rcases (foldl_better (tt c) none).1 f h with q | q
    · exact tt_ok f q
    · cases q
theorem m4 {c : Int} (h : lf c = none) : tt c = [] := by
  unfold lf at h
  split at h
  · cases h
  · exact ((foldl_better (tt c) none).2.1 h).1
theorem m5 {c : Int} {f : F3} (h : lf c = some f) : fval f = c.fmod (2 ^ Int.toNat 32) := by
  unfold lf at h
  split at h
  · rename_i g e
    cases h
    rw [(one_some e).2.2, pow32']
  · rcases (foldl_better (tt c) none).1 f h with q | q
    · exact m7a q
    · cases q
theorem m7b {c : Int} {f g : F3} (h : lf c = some f) (hg : g ∈ tt c) : ¬ cost g < cost f := by
  unfold lf at h
  split at h
  · rename_i g' e
    cases h
    have := (one_some e).2.1
    have := cost_pos (f := g)
    omega
  · exact ((foldl_better (tt c) none).2.2 f h).1 g hg
theorem lf_congr {c c' : Int} (h : c % 4294967296 = c' % 4294967296) : lf c = lf c' := by
  have e1 : one c = one c' := by
    unfold one
    rw [w_emod, w_emod, h]
  have e2 : ∀ f, fsum c f = fsum c' f := by
    intro f
    unfold fsum
    have : (c - 2 ^ f.toNat).fmod 4294967296 = (c' - 2 ^ f.toNat).fmod 4294967296 := by rw [w_emod, w_emod]; omega
    rw [this]
  have e3 : ∀ f, fdif c f = fdif c' f := by
    intro f
    unfold fdif
    have : (2 ^ f.toNat - c).fmod 4294967296 = (2 ^ f.toNat - c').fmod 4294967296 := by rw [w_emod, w_emod]; omega
    rw [this]
  unfold lf tt
  rw [e1, funext e2, funext e3]
theorem m6a (c : Int) : lf (c.fmod (2 ^ Int.toNat 32)) = lf c := lf_congr (by rw [pow32', w_emod]; omega)
theorem m6b (c : Int) : lf (c - 2 ^ Int.toNat 32) = lf c := lf_congr (by rw [pow32']; omega)
end
section
theorem fm2 (x : Int) : x.fmod 2 = x % 2 := Int.fmod_eq_emod_of_nonneg _ (by decide)
theorem fm4 (x : Int) : x.fmod 4 = x % 4 := Int.fmod_eq_emod_of_nonneg _ (by decide)
theorem fd2 (x : Int) : x.fdiv 2 = x / 2 := Int.fdiv_eq_ediv_of_nonneg _ (by decide)
theorem dig_def (r : Int) : dig r = if r % 2 = 1 then 2 - r % 4 else 0 := by unfold dig; rw [fm2, fm4]
theorem nxt_def (r : Int) : nxt r = (r - dig r) / 2 := by unfold nxt; rw [fd2]
theorem dig_split (r : Int) : r = dig r + 2 * nxt r := by
  rw [nxt_def, dig_def]; split <;> omega
theorem dig_range (r : Int) : dig r = -1 ∨ dig r = 0 ∨ dig r = 1 := by
  rw [dig_def]; split <;> omega
/-- the digits that are filled -/
def nz (k : Nat) (n : Int) : List Int := (digs k n).filter (fun a => a != 0)
theorem nz_zero (k : Nat) : nz k 0 = [] := by
  cases k <;> rfl
theorem nz_none (n : Int) : nz 0 n = [] := rfl
theorem nz_even (k : Nat) (m : Int) : nz (k + 1) (2 * m) = nz k m := by
  by_cases h : m = 0
  · subst h
    rw [Int.mul_zero, nz_zero, nz_zero]
  · have e : dig (2 * m) = 0 := by rw [dig_def, if_neg (by omega)]
    have e2 : nxt (2 * m) = m := by rw [nxt_def, e]; omega
    unfold nz
    rw [digs, if_neg (by omega), e, e2]
    rfl
theorem nz_odd (k : Nat) {m d t : Int} (hd : m = d + 2 * t) (h : d = 1 ∧ m % 4 = 1 ∨ d = -1 ∧ m % 4 = 3) : nz (k + 1) m = d :: nz k t := by
  have e : dig m = d := by rw [dig_def, if_pos (by omega)]; omega
  have e2 : nxt m = t := by rw [nxt_def, e]; omega
  unfold nz
  rw [digs, if_neg (by omega), e, e2]
  rcases h with ⟨rfl, _⟩ | ⟨rfl, _⟩ <;> rfl
theorem nz_shift (m : Int) : ∀ p k, ∃ k', nz k (2 ^ p * m) = nz k' m
  | 0, k => ⟨k, by rw [Int.pow_zero, Int.one_mul]⟩
  | p + 1, 0 => ⟨0, rfl⟩
  | p + 1, k + 1 => by
    obtain ⟨k', h⟩ := nz_shift m p k
    refine ⟨k', ?_⟩
    have e : (2 : Int) ^ (p + 1) * m = 2 * (2 ^ p * m) := by rw [Int.pow_succ, Int.mul_comm (2 ^ p) 2, Int.mul_assoc]
    rw [e, nz_even, h]
theorem nz_one (k : Nat) : nz k 1 = [] ∨ nz k 1 = [1] := by
  cases k with
  | zero => exact .inl rfl
  | succ k => exact .inr (by rw [nz_odd k (d := 1) (t := 0) (by omega) (by omega), nz_zero])
theorem nz_neg (k : Nat) : nz k (-1) = [] ∨ nz k (-1) = [-1] := by
  cases k with
  | zero => exact .inl rfl
  | succ k => exact .inr (by rw [nz_odd k (d := -1) (t := 0) (by omega) (by omega), nz_zero])
theorem nz_pow (k p : Nat) : nz k (2 ^ p) = [] ∨ nz k (2 ^ p) = [1] := by
  obtain ⟨k', h⟩ := nz_shift 1 p k
  rw [Int.mul_one] at h
  rw [h]; exact nz_one k'
theorem nz_npow (k p : Nat) : nz k (-2 ^ p) = [] ∨ nz k (-2 ^ p) = [-1] := by
  obtain ⟨k', h⟩ := nz_shift (-1) p k
  have e : (2 : Int) ^ p * -1 = -2 ^ p := by rw [Int.mul_neg, Int.mul_one]
  rw [e] at h
  rw [h]; exact nz_neg k'
def good (n : Int) : Prop := ∀ k, chk (nz k n) = true
theorem good_shift {m : Int} (h : good m) (p : Nat) : good (2 ^ p * m) := by
  intro k
  obtain ⟨k', e⟩ := nz_shift m p k
  rw [e]; exact h k'
theorem good_zero : good 0 := fun k => by rw [nz_zero]; rfl
theorem good_pow (p : Nat) : good (2 ^ p) := fun k => by rcases nz_pow k p with e | e <;> rw [e] <;> rfl
theorem good_npow (p : Nat) : good (-2 ^ p) := fun k => by rcases nz_npow k p with e | e <;> rw [e] <;> rfl
theorem pow_four (e : Nat) : (2 : Int) ^ (e + 2) = 4 * 2 ^ e := by rw [Int.pow_succ, Int.pow_succ]; omega
theorem pow_two (e : Nat) : (2 : Int) ^ (e + 1) = 2 * 2 ^ e := by rw [Int.pow_succ]; omega
theorem good_add (e : Nat) : good (1 + 2 ^ (e + 1)) := by
  intro k
  cases k with
  | zero => rfl
  | succ k =>
    cases e with
    | zero =>
      rw [nz_odd k (d := -1) (t := 2 ^ 1) (by decide) (by decide)]
      rcases nz_pow k 1 with h | h <;> rw [h] <;> rfl
    | succ e =>
      rw [nz_odd k (d := 1) (t := 2 ^ (e + 1)) (by rw [pow_two]) (by rw [pow_four]; omega)]
      rcases nz_pow k (e + 1) with h | h <;> rw [h] <;> rfl
theorem good_sub (e : Nat) : good (2 ^ (e + 1) - 1) := by
  intro k
  cases k with
  | zero => rfl
  | succ k =>
    cases e with
    | zero =>
      have e1 : (2 : Int) ^ (0 + 1) - 1 = 1 := by decide
      rw [e1]
      rcases nz_one (k + 1) with h | h <;> rw [h] <;> rfl
    | succ e =>
      rw [nz_odd k (d := -1) (t := 2 ^ (e + 1)) (by rw [pow_two (e + 1)]; omega) (by rw [pow_four]; omega)]
      rcases nz_pow k (e + 1) with h | h <;> rw [h] <;> rfl
theorem good_nsub (e : Nat) : good (1 - 2 ^ (e + 1)) := by
  intro k
  cases k with
  | zero => rfl
  | succ k =>
    cases e with
    | zero =>
      have e1 : 1 - (2 : Int) ^ (0 + 1) = -1 := by decide
      rw [e1]
      rcases nz_neg (k + 1) with h | h <;> rw [h] <;> rfl
    | succ e =>
      rw [nz_odd k (d := 1) (t := -2 ^ (e + 1)) (by rw [pow_two (e + 1)]; omega) (by rw [pow_four]; omega)]
      rcases nz_npow k (e + 1) with h | h <;> rw [h] <;> rfl
theorem hasF_low {c : Int} (h : good (c % 4294967296)) : hasF c = true := by
  unfold hasF
  rw [w_emod, show nzd (c % 4294967296) = nz 32 (c % 4294967296) from rfl, h 32]; rfl
theorem hasF_high {c : Int} (h : good (c % 4294967296 - 4294967296)) : hasF c = true := by
  unfold hasF
  rw [w_emod, show nzd (c % 4294967296 - 4294967296) = nz 32 (c % 4294967296 - 4294967296) from rfl, h 32, Bool.or_true]
theorem pow_le {a : Nat} (h : a ≤ 32) : (2 : Int) ^ a ≤ 4294967296 := two_mono h
theorem pow_le31 {a : Nat} (h : a < 32) : (2 : Int) ^ a ≤ 2147483648 := two_mono (show a ≤ 31 by omega)
theorem pow_split {f k e : Nat} (h : f = k + e) : (2 : Int) ^ f = 2 ^ k * 2 ^ e := by rw [h, Int.pow_add]
theorem m3s {c : Int} {f : F3} (h : lf c = some f) : hasF c = true := by
  unfold lf at h
  split at h
  · rename_i g e
    cases h
    unfold one at e
    split at e
    · rename_i q
      rw [w_emod] at q
      exact hasF_low (by rw [q]; exact good_zero)
    · split at e
      · cases e
      · rename_i q
        obtain ⟨k, hk, e1, e2⟩ := pidx_nonneg (by omega : 0 ≤ pidx (c.fmod 4294967296))
        rw [w_emod] at e1
        exact hasF_low (by rw [e1]; exact good_pow k)
  · rcases (foldl_better (tt c) none).1 f h with q | q
    · rcases tt_mem q with ⟨f', h0, h1, e⟩ | ⟨f', h0, h1, e⟩
      · obtain ⟨a, b, hlt, k, hk, e2, e3⟩ := fsum_some e
        obtain ⟨n, rfl⟩ := Int.eq_ofNat_of_zero_le h0
        rw [Int.toNat_natCast] at e3
        obtain ⟨e', he⟩ : ∃ e', n = k + (e' + 1) := ⟨n - k - 1, by omega⟩
        have p1 := pow_le31 (a := n) (by omega)
        have p2 := pow_le31 (a := k) (by omega)
        have p3 := two_pos n
        have p4 := two_pos k
        have p5 : (2 : Int) ^ k ≠ 2 ^ n := fun q => by have := two_inj q; omega
        have e5 : c % 4294967296 = 2 ^ k * (1 + 2 ^ (e' + 1)) := by
          rw [Int.mul_add, Int.mul_one, ← pow_split he]
          omega
        exact hasF_low (by rw [e5]; exact good_shift (good_add e') k)
      · obtain ⟨a, b, k, hk, e2, e3⟩ := fdif_some e
        obtain ⟨n, rfl⟩ := Int.eq_ofNat_of_zero_le h0
        rw [Int.toNat_natCast] at e3
        have p1 := pow_le (a := n) (by omega)
        have p2 := pow_le31 (a := k) (by omega)
        have p3 := two_pos n
        have p4 := two_pos k
        rcases Nat.lt_trichotomy k n with r | r | r
        · obtain ⟨e', he⟩ : ∃ e', n = k + (e' + 1) := ⟨n - k - 1, by omega⟩
          have p5 := two_mono (show k ≤ n by omega)
          have e5 : c % 4294967296 = 2 ^ k * (2 ^ (e' + 1) - 1) := by
            rw [Int.mul_sub, Int.mul_one, ← pow_split he]
            omega
          exact hasF_low (by rw [e5]; exact good_shift (good_sub e') k)
        · subst r
          exact hasF_low (by rw [show c % 4294967296 = 0 by omega]; exact good_zero)
        · obtain ⟨e', he⟩ : ∃ e', k = n + (e' + 1) := ⟨k - n - 1, by omega⟩
          have p5 := two_mono (show n + 1 ≤ k by omega)
          rw [Int.pow_succ] at p5
          have e5 : c % 4294967296 - 4294967296 = 2 ^ n * (1 - 2 ^ (e' + 1)) := by
            rw [Int.mul_sub, Int.mul_one, ← pow_split he]
            omega
          exact hasF_high (by rw [e5]; exact good_shift (good_nsub e') n)
    · cases q
/- back: what the digits say -/
/-- d times 2^i and so on -/
def dval : Nat → List Int → Int
  | _, [] => 0
  | i, d :: r => d * 2 ^ i + dval (i + 1) r
theorem dval_cong : ∀ (k i : Nat) (n : Int), (n * 2 ^ i) % 2 ^ (i + k) = dval i (digs k n) % 2 ^ (i + k)
  | 0, i, n => by
    show (n * 2 ^ i) % 2 ^ (i + 0) = 0 % 2 ^ (i + 0)
    rw [Nat.add_zero, Int.mul_emod_left, Int.zero_emod]
  | k + 1, i, n => by
    by_cases h : n = 0
    · subst h
      rw [digs, if_pos rfl, Int.zero_mul]; rfl
    · rw [digs, if_neg h]
      show _ = (dig n * 2 ^ i + dval (i + 1) (digs k (nxt n))) % _
      have ih := dval_cong k (i + 1) (nxt n)
      have e : i + 1 + k = i + (k + 1) := by omega
      rw [e] at ih
      have e2 : n * 2 ^ i = dig n * 2 ^ i + nxt n * 2 ^ (i + 1) := by
        have := dig_split n
        rw [Int.pow_succ, Int.mul_comm (2 ^ i) 2, ← Int.mul_assoc, ← Int.add_mul, Int.mul_comm (nxt n) 2, ← this]
      rw [e2, Int.add_emod, ih, ← Int.add_emod]
theorem digs_range : ∀ (k : Nat) (n : Int), ∀ d ∈ digs k n, d = -1 ∨ d = 0 ∨ d = 1
  | 0, _, d, h => nomatch h
  | k + 1, n, d, h => by
    rw [digs] at h
    split at h
    · cases h
    · rcases List.mem_cons.mp h with rfl | h
      · exact dig_range n
      · exact digs_range k _ d h
theorem dval_nil : ∀ (D : List Int) (i : Nat), D.filter (fun a => a != 0) = [] → dval i D = 0
  | [], _, _ => rfl
  | d :: r, i, h => by
    by_cases hd : d = 0
    · subst hd
      show 0 * 2 ^ i + dval (i + 1) r = 0
      rw [dval_nil r (i + 1) (by simpa using h), Int.zero_mul]; rfl
    · rw [List.filter_cons_of_pos (by simpa using hd)] at h
      cases h
theorem dval_one : ∀ (D : List Int) (i : Nat) (a : Int), D.filter (fun a => a != 0) = [a] → ∃ p, i ≤ p ∧ p < i + D.length ∧ dval i D = a * 2 ^ p
  | [], _, _, h => nomatch h
  | d :: r, i, a, h => by
    by_cases hd : d = 0
    · subst hd
      obtain ⟨p, h1, h2, h3⟩ := dval_one r (i + 1) a (by simpa using h)
      refine ⟨p, by omega, by simp only [List.length_cons]; omega, ?_⟩
      show 0 * 2 ^ i + dval (i + 1) r = _
      rw [h3, Int.zero_mul, Int.zero_add]
    · rw [List.filter_cons_of_pos (by simpa using hd)] at h
      have e1 := (List.cons.inj h).1
      have e2 := (List.cons.inj h).2
      subst e1
      refine ⟨i, Nat.le_refl _, by simp, ?_⟩
      show d * 2 ^ i + dval (i + 1) r = _
      rw [dval_nil r (i + 1) e2, Int.add_zero]
theorem dval_two : ∀ (D : List Int) (i : Nat) (a b : Int), D.filter (fun a => a != 0) = [a, b] → ∃ p q, i ≤ p ∧ p < q ∧ q < i + D.length ∧ dval i D = a * 2 ^ p + b * 2 ^ q
  | [], _, _, _, h => nomatch h
  | d :: r, i, a, b, h => by
    by_cases hd : d = 0
    · subst hd
      obtain ⟨p, q, h1, h2, h3, h4⟩ := dval_two r (i + 1) a b (by simpa using h)
      refine ⟨p, q, by omega, h2, by simp only [List.length_cons]; omega, ?_⟩
      show 0 * 2 ^ i + dval (i + 1) r = _
      rw [h4, Int.zero_mul, Int.zero_add]
    · rw [List.filter_cons_of_pos (by simpa using hd)] at h
      have e1 := (List.cons.inj h).1
      have e2 := (List.cons.inj h).2
      subst e1
      obtain ⟨q, h1, h2, h3⟩ := dval_one r (i + 1) b e2
      refine ⟨i, q, Nat.le_refl _, by omega, by simp only [List.length_cons]; omega, ?_⟩
      show d * 2 ^ i + dval (i + 1) r = _
      rw [h3]
theorem digs_le : ∀ k n, (digs k n).length ≤ k
  | 0, _ => Nat.le_refl _
  | k + 1, n => by
    rw [digs]
    split
    · exact Nat.zero_le _
    · exact Nat.succ_le_succ (digs_le k _)
theorem lf_of_tt {c : Int} {g : F3} (h : g ∈ tt c) : lf c ≠ none := fun e => by rw [m4 e] at h; cases h
theorem rk_mem {n : Nat} {k : Nat} (h : k < n) : (k : Int) ∈ rangeKs 0 n := List.mem_map.mpr ⟨k, List.mem_range.mpr h, by simp⟩
theorem pidx_of {n : Int} {k : Nat} (hk : k < 32) (h : n % 4294967296 = 2 ^ k) : pidx (n.fmod 4294967296) = k := by rw [w_emod, h, pidx_pow hk]
theorem lf_of_dif {c : Int} {f k : Nat} (hf : f < 33) (hk : k < 32) (h : (2 ^ f - c) % 4294967296 = 2 ^ k) : lf c ≠ none := by
  have e : fdif c f = some ((f : Int), -1, (k : Int)) := by
    unfold fdif
    rw [Int.toNat_natCast, pidx_of hk h, if_pos (by omega)]
  exact lf_of_tt (g := ((f : Int), -1, (k : Int))) (List.mem_append.mpr (.inr (List.mem_filterMap.mpr ⟨f, rk_mem hf, e⟩)))
theorem lf_of_sum {c : Int} {f k : Nat} (hf : f < 32) (hk : k < f) (h : (c - 2 ^ f) % 4294967296 = 2 ^ k) : lf c ≠ none := by
  have e : fsum c f = some ((f : Int), 1, (k : Int)) := by
    unfold fsum
    rw [Int.toNat_natCast, pidx_of (by omega) h, if_pos (by omega)]
  exact lf_of_tt (g := ((f : Int), 1, (k : Int))) (List.mem_append.mpr (.inl (List.mem_filterMap.mpr ⟨f, rk_mem hf, e⟩)))
theorem lf_of_one {c : Int} (h : one c ≠ none) : lf c ≠ none := by
  unfold lf
  cases e : one c with
  | none => exact absurd e h
  | some f => exact fun q => by cases q
theorem one_zero {c : Int} (h : c % 4294967296 = 0) : one c ≠ none := by
  unfold one
  rw [w_emod, if_pos h]
  exact fun q => by cases q
theorem one_pow {c : Int} {k : Nat} (hk : k < 32) (h : c % 4294967296 = 2 ^ k) : one c ≠ none := by
  unfold one
  split
  · exact fun q => by cases q
  · rw [pidx_of hk h, if_neg (by omega)]
    exact fun q => by cases q
theorem small_emod {k : Nat} (hk : k < 32) : (2 : Int) ^ k % 4294967296 = 2 ^ k := by
  have p1 := pow_le31 hk
  have p2 := two_pos k
  omega
theorem chk_lf {n c : Int} (hn : n % 4294967296 = c % 4294967296) (h : chk (nzd n) = true) : lf c ≠ none := by
  have hv := dval_cong 32 0 n
  rw [Int.pow_zero, Int.mul_one, show (2 : Int) ^ (0 + 32) = 4294967296 by decide, hn] at hv
  have hlen := digs_le 32 n
  have hr : ∀ d ∈ nzd n, d = -1 ∨ d = 1 := by
    intro d hd
    have h1 := List.mem_filter.mp hd
    have h2 := digs_range 32 n d h1.1
    have h3 : d ≠ 0 := by simpa using h1.2
    omega
  have cases3 : nzd n = [] ∨ (∃ a, nzd n = [a]) ∨ (∃ a b, nzd n = [a, b] ∧ ¬ (a = -1 ∧ b = -1)) := by
    revert h
    generalize nzd n = l
    intro h
    match l, h with
    | [], _ => exact .inl rfl
    | [a], _ => exact .inr (.inl ⟨a, rfl⟩)
    | [a, b], h =>
      refine .inr (.inr ⟨a, b, rfl, fun q => ?_⟩)
      rw [q.1, q.2] at h
      exact absurd h (by decide)
    | a :: b :: d :: r, h =>
      exfalso
      simp [chk] at h
      omega
  rcases cases3 with e | ⟨a, e⟩ | ⟨a, b, e, hab⟩
  · rw [dval_nil _ 0 e] at hv
    exact lf_of_one (one_zero (by rw [hv]; rfl))
  · obtain ⟨p, _, hp, h3⟩ := dval_one _ 0 a e
    have hp' : p < 32 := by omega
    rw [h3] at hv
    rcases hr a (by rw [e]; exact .head _) with rfl | rfl
    · refine lf_of_dif (f := 32) (k := p) (by decide) hp' ?_
      have p1 := small_emod hp'
      rw [show (2 : Int) ^ 32 = 4294967296 by decide]
      omega
    · rw [Int.one_mul] at hv
      exact lf_of_one (one_pow hp' (hv.trans (small_emod hp')))
  · obtain ⟨p, q, _, hpq, hq, h3⟩ := dval_two _ 0 a b e
    have hq' : q < 32 := by omega
    have hp' : p < 32 := by omega
    have p1 := small_emod hp'
    have p2 := small_emod hq'
    rw [h3] at hv
    rcases hr a (by rw [e]; exact .head _) with rfl | rfl <;> rcases hr b (by rw [e]; exact .tail _ (.head _)) with rfl | rfl
    · exact absurd ⟨rfl, rfl⟩ hab
    · exact lf_of_dif (f := q) (k := p) (by omega) hp' (by omega)
    · exact lf_of_dif (f := p) (k := q) (by omega) hq' (by omega)
    · exact lf_of_sum (f := q) (k := p) hq' hpq (by omega)
theorem m3n {c : Int} (h : lf c = none) : hasF c = false := by
  cases e : hasF c with
  | false => rfl
  | true =>
    exfalso
    unfold hasF at e
    rw [w_emod] at e
    rcases Bool.or_eq_true_iff.mp e with q | q
    · exact chk_lf (by omega) q h
    · exact chk_lf (by omega) q h
end
section
theorem c_pi (w : World) (p : Program) (loose : List Str) (mean : ExcName → Option Value) (mg mb : Str → Option Value) :
   ∀ d, TellsN PySem.Challenge.rw_pq0740_01.row.prog w (hd.heap_39 w.params) p loose mean mg mb 28 piT d := by
  k_with_none
  w_top off
  k_fill
  k_with "exec While Compare cons nil" => k_while_given ["word"] (fun word _ power => 0 ≤ power ∧ power ≤ 32 ∧ PInv word power) (fun _ _ power => (32 - power).toNat) "power"
  k_with "state" => first | exact ⟨by decide, by decide, pinv_start _⟩ | (have q9 := pinv_step (by assumption) (by assumption) (by assumption); exact ⟨q9.1, q9.2.1, q9⟩)
  k_with "measure" => exact pinv_less (by assumption) (by assumption) (by assumption)
  refine tellsN_of fun d IH => ?_
  clear IH
  unfold TellsN
  intro dp un gd cn cs a ccd cl outer A₀ base h₀ L m news s vs Q E B F X N T hk hR hok hd hu hret
  cases hR
  obtain ⟨hk1, hk2⟩ := hok
  refine wpAny_call ?_
  k_dflt ktr_enter
  k_steps
  · rename d = 0 => h9
    subst h9
    exact hret _ [] _ _ (by k_asm) (ktn_tl0 (by k_asm)) ktn_ord0 rfl ⟨_, by rw [pidx_zero]⟩
  · exact hret _ [] _ _ (by k_asm) (ktn_tl0 (by k_asm)) ktn_ord0 rfl ⟨_, by rw [pidx_no hk1 (by assumption)]⟩
  · exact hret _ [] _ _ (by k_asm) (ktn_tl0 (by k_asm)) ktn_ord0 rfl ⟨_, by rw [← pinv_end hk1 (by assumption) hk2 (by assumption) (by assumption) (by assumption)]⟩
end
section
theorem unr_end1 {h₀ : Heap} {L : Addr} {s₁ : Shared} {I : Addr} {o : Obj} {rest : (Str → Option Value) → List (Addr × Obj) → Prop} {h' : Heap} {tk : Nat} {m' : Str → Option Value} {news' : List (Addr × Obj)}
    (F : Fr h₀ L h' m') (N : News h₀ L h' ((I, o) :: news')) (lt : ∀ p ∈ news', p.1 < I) (r : rest m' news') : UnrEndW h₀ L s₁ [(I, o)] rest { s₁ with heap := h', toks := tk } :=
  ⟨h', tk, m', news', rfl, F, N, fun p hp q hq => by rw [List.mem_singleton.mp hq]; exact Nat.ne_of_lt (lt p hp), r⟩
theorem cost_one {x z : Int} : cost (x, 0, z) = 1 := rfl
theorem cost_two {x y z : Int} (h : y ≠ 0) : cost (x, y, z) = 1 + (if 0 < x then 1 else 0) + (if 0 < z then 1 else 0) := by
  unfold cost; rw [if_neg h]
theorem cost_is {x y z r1 r2 : Int} (h : y ≠ 0) (q1 : 0 < x ∧ r1 = 1 + 1 ∨ ¬ 0 < x ∧ r1 = 1) (q2 : 0 < z ∧ r2 = r1 + 1 ∨ ¬ 0 < z ∧ r2 = r1) : r2 = cost (x, y, z) := by
  rw [cost_two h]
  rcases q1 with ⟨a, b⟩ | ⟨a, b⟩ <;> rcases q2 with ⟨c, d⟩ | ⟨c, d⟩ <;> simp only [a, c, if_true, if_false] <;> omega
theorem News.get_tail {h₀ h : Heap} {L : Addr} {q : Addr × Obj} {news : List (Addr × Obj)} (N : News h₀ L h (q :: news)) : News h₀ L h news := fun p hp => N p (.tail _ hp)
theorem c_fc (w : World) (p : Program) (loose : List Str) (mean : ExcName → Option Value) (mg mb : Str → Option Value) :
   ∀ d, TellsN PySem.Challenge.rw_pq0740_01.row.prog w (hd.heap_39 w.params) p loose mean mg mb 49 fcT d := by
  k_with_none
  w_top off
  k_fill
  refine tellsN_of fun d IH => ?_
  clear IH
  unfold TellsN
  intro dp un gd cn cs a ccd cl outer A₀ base h₀ L m news s vs Q E B F X N T hk hR hok hd hu hret
  cases hR
  obtain ⟨hk1, hk2, hk3, hk4, hk5⟩ := hok
  dsimp only at hk1 hk2 hk3 hk4 hk5
  k_with "pyIter ref" =>
    (rename Fr _ _ _ _ => lF'); (rename News _ _ _ (_ :: _) => lN')
    with_unfolding_all refine iter_tupTurns (by rfl) lF' lN' (List.Mem.head _) (by rfl) (by rfl) ?_
    clear lF'
    intro i' l2
  k_with "UnrEndW" => (k_dflt (refine unr_end1 (by k_asm) (by k_asm) (by assumption) ⟨by k_subL, ?_⟩))
  refine wpAny_call ?_
  k_dflt ktr_enter
  k_steps
  · rename _ = 0 => h9
    subst h9
    exact hret _ [] _ _ (by k_asm) (ktn_tl0 (by k_asm)) ktn_ord0 rfl ⟨_, rfl⟩
  · exact hret _ [] _ _ (by k_asm) (ktn_tl0 (News.get_tail (by assumption))) ktn_ord0 rfl ⟨_, congrArg (Value.int · _) (cost_is (by assumption) (by assumption) (by assumption))⟩
theorem c_fv (w : World) (p : Program) (loose : List Str) (mean : ExcName → Option Value) (mg mb : Str → Option Value) :
   ∀ d, TellsN PySem.Challenge.rw_pq0740_01.row.prog w (hd.heap_39 w.params) p loose mean mg mb 21 fvT d := by
  k_with_none
  w_top off
  k_fill
  refine tellsN_of fun d IH => ?_
  clear IH
  unfold TellsN
  intro dp un gd cn cs a ccd cl outer A₀ base h₀ L m news s vs Q E B F X N T hk hR hok hd hu hret
  cases hR
  obtain ⟨hk1, hk2, hk3, hk4, hk5⟩ := hok
  dsimp only at hk1 hk2 hk3 hk4 hk5
  refine wpAny_call ?_
  k_dflt ktr_enter
  k_steps
  exact hret _ [] _ _ (by k_asm) (ktn_tl0 (by k_asm)) ktn_ord0 rfl ⟨_, by unfold fval; rw [Int.one_mul, Int.one_mul]⟩
end
section
theorem s1_start (c : Int) : ([] : List Dat) = (([] : List Int).filterMap (fsum c)).map dat ∧ ([] : List Dat).length ≤ ([] : List Int).length := ⟨rfl, Nat.le_refl _⟩
theorem s1_yes {c k : Int} {pre : List Int} (h0 : 0 ≤ pidx ((c - 1 * 2 ^ k.toNat).fmod 4294967296)) (h1 : pidx ((c - 1 * 2 ^ k.toNat).fmod 4294967296) < k) (hl : ((pre.filterMap (fsum c)).map dat).length ≤ pre.length) :
    (pre.filterMap (fsum c)).map dat ++ [Dat.tuple [Dat.int k, Dat.int 1, Dat.int (pidx ((c - 1 * 2 ^ k.toNat).fmod 4294967296))]] = ((pre ++ [k]).filterMap (fsum c)).map dat ∧
    ((pre.filterMap (fsum c)).map dat ++ [Dat.tuple [Dat.int k, Dat.int 1, Dat.int (pidx ((c - 1 * 2 ^ k.toNat).fmod 4294967296))]]).length ≤ (pre ++ [k]).length := by
  rw [Int.one_mul] at *
  have e : fsum c k = some (k, 1, pidx ((c - 2 ^ k.toNat).fmod 4294967296)) := by unfold fsum; rw [if_pos ⟨h0, h1⟩]
  refine ⟨by rw [List.filterMap_append, List.map_append]; simp only [List.filterMap_cons, e, List.filterMap_nil]; rfl, ?_⟩
  simp only [List.length_append, List.length_cons, List.length_nil]; omega
theorem s1_no {c k : Int} {pre : List Int} (h : ¬ 0 ≤ pidx ((c - 1 * 2 ^ k.toNat).fmod 4294967296) ∨ ¬ pidx ((c - 1 * 2 ^ k.toNat).fmod 4294967296) < k) (hl : ((pre.filterMap (fsum c)).map dat).length ≤ pre.length) :
    (pre.filterMap (fsum c)).map dat = ((pre ++ [k]).filterMap (fsum c)).map dat ∧ ((pre.filterMap (fsum c)).map dat).length ≤ (pre ++ [k]).length := by
  rw [Int.one_mul] at *
  have e : fsum c k = none := by unfold fsum; rw [if_neg (fun q => h.elim (fun a => a q.1) fun a => a q.2)]
  refine ⟨by rw [List.filterMap_append, List.map_append]; simp only [List.filterMap_cons, e, List.filterMap_nil, List.map_nil, List.append_nil], ?_⟩
  simp only [List.length_append, List.length_cons, List.length_nil]; omega
def W2 (c : Int) (pre : List Int) (out : List Dat) : Prop := out = ((rangeKs 0 32).filterMap (fsum c) ++ pre.filterMap (fdif c)).map dat ∧ out.length ≤ 32 + pre.length
theorem W2.len {c : Int} {pre : List Int} {out : List Dat} (h : W2 c pre out) : out.length ≤ 32 + pre.length := And.right h
theorem s2_start (c : Int) : W2 c [] (((rangeKs 0 (32 - 0 : Int).toNat).filterMap (fsum c)).map dat) :=
  ⟨by rw [List.filterMap_nil, List.append_nil]; rfl, by
    rw [List.length_map]
    exact Nat.le_trans (List.length_filterMap_le _ _) (by rw [rangeKs_length]; decide)⟩
theorem s2_yes {c k : Int} {pre : List Int} {out : List Dat} (hw : W2 c pre out) (h0 : 0 ≤ pidx ((1 * 2 ^ k.toNat - c).fmod 4294967296)) : W2 c (pre ++ [k]) (out ++ [Dat.tuple [Dat.int k, Dat.int (-1), Dat.int (pidx ((1 * 2 ^ k.toNat - c).fmod 4294967296))]]) := by
  rw [Int.one_mul] at *
  have e : fdif c k = some (k, -1, pidx ((2 ^ k.toNat - c).fmod 4294967296)) := by unfold fdif; rw [if_pos h0]
  obtain ⟨rfl, hl⟩ := hw
  refine ⟨by rw [List.filterMap_append, ← List.append_assoc, List.map_append (l₂ := [k].filterMap (fdif c))]; simp only [List.filterMap_cons, e, List.filterMap_nil]; rfl, ?_⟩
  simp only [List.length_append, List.length_cons, List.length_nil] at *; omega
theorem s2_no {c k : Int} {pre : List Int} {out : List Dat} (hw : W2 c pre out) (h0 : ¬ 0 ≤ pidx ((1 * 2 ^ k.toNat - c).fmod 4294967296)) : W2 c (pre ++ [k]) out := by
  rw [Int.one_mul] at *
  have e : fdif c k = none := by unfold fdif; rw [if_neg h0]
  obtain ⟨rfl, hl⟩ := hw
  refine ⟨by rw [List.filterMap_append]; simp only [List.filterMap_cons, e, List.filterMap_nil, List.append_nil], ?_⟩
  simp only [List.length_append, List.length_cons, List.length_nil] at *; omega
theorem off_join {news tl : List (Addr × Obj)} {l : Addr} {adr : List Addr} (h1 : ∀ p ∈ news, p.1 < l) (h2 : OwnOff tl (l :: adr)) : OwnOff (news ++ tl) [l] := by
  intro p hp b hb e
  rcases List.mem_append.mp hp with hp | hp
  · have := h1 p hp
    rw [List.mem_singleton.mp hb] at e
    exact absurd e (Nat.ne_of_lt this)
  · exact h2 p hp l (.head _) (by rw [e]; exact List.mem_singleton.mp hb)
theorem end_two {h₀ h : Heap} {L : Addr} {news t1 t2 : List (Addr × Obj)} {q : Addr × Obj} (N : News h₀ L h (q :: (news ++ t1 ++ t2))) : News h₀ L h (news ++ (q :: (t1 ++ t2))) := by
  intro p hp
  refine N p ?_
  simp only [List.mem_append, List.mem_cons] at hp ⊢
  rcases hp with h | h | h | h
  · exact .inr (.inl (.inl h))
  · exact .inl h
  · exact .inr (.inl (.inr h))
  · exact .inr (.inr h)
theorem off_two {news t1 t2 : List (Addr × Obj)} {l : Addr} {o : Obj} (h1 : ∀ p ∈ news, p.1 < l) (k1 : OwnOff t1 (l :: news.map Prod.fst)) (k2 : OwnOff t2 (l :: (news ++ t1).map Prod.fst)) : OwnOff ((l, o) :: (t1 ++ t2)) (news.map (·.1)) := by
  intro p hp b hb
  rcases List.mem_cons.mp hp with rfl | hp
  · obtain ⟨q, hq, rfl⟩ := List.mem_map.mp hb
    exact (Nat.ne_of_lt (h1 q hq)).symm
  · rcases List.mem_append.mp hp with hp | hp
    · exact k1 p hp b (.tail _ hb)
    · refine k2 p hp b (.tail _ ?_)
      obtain ⟨q, hq, rfl⟩ := List.mem_map.mp hb
      exact List.mem_map.mpr ⟨q, List.mem_append.mpr (.inl hq), rfl⟩
theorem tt_out {news t1 t2 : List (Addr × Obj)} {l : Addr} {vs : List Value} {k : Nat} {c : Int} {out : List Dat} (hw : W2 c (rangeKs 0 (33 - 0 : Int).toNat) out) (hD : DatAll (news ++ t1 ++ t2) vs out) :
    TtOut (news ++ ((l, listOf vs.toArray k) :: (t1 ++ t2))) (.ref l) c := by
  refine TtOut.mk (List.mem_append.mpr (.inr (.head _))) ?_ (.mk hw.1)
  refine DatAll.mono ?_ hD
  intro p hp
  simp only [List.mem_append, List.mem_cons] at hp ⊢
  rcases hp with (h | h) | h
  · exact .inl h
  · exact .inr (.inr (.inl h))
  · exact .inr (.inr (.inr h))
local macro_rules | `(tactic| ktr_rel) => `(tactic| exact fmod_ok _)
theorem c_tt (w : World) (p : Program) (loose : List Str) (mean : ExcName → Option Value) (mg mb : Str → Option Value) :
   ∀ d, Tel w p loose mean mg mb 42 ttT d := by
  have C1 := c_pi w p loose mean mg mb
  intro d
  unfold Tel
  k_with_none
  w_top off
  k_fill
  intro dp un gd cn cs a ccd cl outer A₀ base h₀ L m news s vs Q E B F X N T hk hR hok hd hu hret
  cases hR
  clear hok
  dsimp only [ttT] at hd hu
  k_with "call ref" => ktn_call "power_index" piT
  k_with "pyIter ref" => 
    have hO := off_join (h2 := kO3) (by assumption)
    generalize hE : news ++ kTl = nn at *
    k_dat (fun pre out => W2 d pre out ∧ out.length ≤ 32 + pre.length) "found*"
  k_with "pyIter ref" => k_dat (fun pre out => out = (pre.filterMap (fsum d)).map dat ∧ out.length ≤ pre.length) "found*"
  k_with "state" => first
    | exact s1_start _
    | exact s1_yes (by assumption) (by assumption) (by assumption)
    | exact s1_no (.inl (by assumption)) (by assumption)
    | exact s1_no (.inr (by assumption)) (by assumption)
    | (have w2 := s2_yes (by assumption) (by assumption); exact ⟨w2, w2.len⟩)
    | (have w2 := s2_no (by assumption) (by assumption); exact ⟨w2, w2.len⟩)
    | exact ⟨s2_start _, (s2_start _).len⟩
  refine wpAny_call ?_
  k_dflt ktr_enter
  k_steps
  all_goals (try subst hE)
  rename News h₀ L _ (_ :: (news ++ _ ++ _)) => kN9
  rename W2 _ _ _ => kW9
  rename DatAll (news ++ _ ++ _) _ _ => kD9
  rename OwnOff _ (_ :: news.map _) => kO8
  rename OwnOff _ (_ :: (news ++ _).map _) => kO9
  exact hret _ (_ :: (_ ++ _)) _ _ (by assumption) (end_two kN9) (off_two (by assumption) kO8 kO9) (tt_out kW9 kD9)
end
section
def LP (pre : List Dat) (best : Dat) : Prop := ∃ fs : List F3, pre = fs.map dat ∧ (∀ f ∈ fs, okF f) ∧ best = odat (fs.foldl better none)
theorem lp_start : LP [] .none := ⟨[], rfl, fun _ h => (nomatch h), rfl⟩
theorem better_ok {fs : List F3} : ∀ {b : Option F3}, (∀ f ∈ fs, okF f) → (∀ g, b = some g → okF g) → ∀ g, fs.foldl better b = some g → okF g := by
  induction fs with
  | nil => intro b _ hb g e; exact hb g e
  | cons f r ih =>
    intro b hf hb g e
    refine ih (fun f' h => hf f' (.tail _ h)) ?_ g e
    intro g' e'
    cases b with
    | none => cases e'; exact hf f (.head _)
    | some b1 =>
      unfold better at e'
      dsimp only at e'
      split at e'
      · cases e'; exact hf f (.head _)
      · exact hb g' e'
theorem lp_cases {pre : List Dat} {best : Dat} (h : LP pre best) : (best = .none ∧ LP pre .none) ∨ ∃ g, best = dat g ∧ okF g ∧ LP pre (dat g) := by
  obtain ⟨fs, rfl, ho, rfl⟩ := h
  cases e : fs.foldl better none with
  | none => exact .inl ⟨rfl, fs, rfl, ho, by rw [e]; rfl⟩
  | some g => exact .inr ⟨g, rfl, better_ok ho (by intro g h; cases h) g e, fs, rfl, ho, by rw [e]; rfl⟩
theorem odat_inj {a b : Option F3} (h : odat a = odat b) : a = b := by
  cases a with
  | none => cases b with
    | none => rfl
    | some b => exact absurd h (by unfold odat dat; simp)
  | some a => cases b with
    | none => exact absurd h (by unfold odat dat; simp)
    | some b =>
      obtain ⟨x, y, z⟩ := a
      obtain ⟨x', y', z'⟩ := b
      unfold odat dat at h
      simp only [Dat.tuple.injEq, List.cons.injEq, Dat.int.injEq, and_true] at h
      obtain ⟨rfl, rfl, rfl⟩ := h
      rfl
theorem lp_snoc {fs : List F3} {f : F3} (ho : ∀ f ∈ fs, okF f) (hf : okF f) : LP (fs.map dat ++ [dat f]) (odat (better (fs.foldl better none) f)) := by
  refine ⟨fs ++ [f], by rw [List.map_append]; rfl, ?_, by rw [List.foldl_append]; rfl⟩
  intro g hg
  rcases List.mem_append.mp hg with h | h
  · exact ho g h
  · rw [List.mem_singleton.mp h]; exact hf
theorem lp_first {pre : List Dat} {f : F3} (h : LP pre .none) (hf : okF f) : LP (pre ++ [dat f]) (dat f) := by
  obtain ⟨fs, rfl, ho, e⟩ := h
  have e2 : fs.foldl better none = none := (odat_inj (a := none) e).symm
  have := lp_snoc ho hf
  rw [e2] at this
  exact this
theorem lp_yes {pre : List Dat} {f g : F3} (h : LP pre (dat g)) (hf : okF f) (hc : cost f < cost g) : LP (pre ++ [dat f]) (dat f) := by
  obtain ⟨fs, rfl, ho, e⟩ := h
  have e2 : fs.foldl better none = some g := (odat_inj (a := some g) e).symm
  have := lp_snoc ho hf
  rw [e2] at this
  unfold better at this
  simp only [if_pos hc] at this
  exact this
theorem lp_no {pre : List Dat} {f g : F3} (h : LP pre (dat g)) (hf : okF f) (hc : ¬ cost f < cost g) : LP (pre ++ [dat f]) (dat g) := by
  obtain ⟨fs, rfl, ho, e⟩ := h
  have e2 : fs.foldl better none = some g := (odat_inj (a := some g) e).symm
  have := lp_snoc ho hf
  rw [e2] at this
  unfold better at this
  simp only [if_neg hc] at this
  exact this
theorem dat_mk {nx : List (Addr × Obj)} {a : Addr} {t1 t2 t3 : Tok} {n : Nat} {x y z : Int} (hm : (a, ({ cls := .type "tuple", data := .seq #[.int x t1, .int y t2, .int z t3] n } : Obj)) ∈ nx) : DatIn nx (.ref a) (dat (x, y, z)) :=
  DatIn.tuple (vs := [.int x t1, .int y t2, .int z t3]) hm (.cons (.int _ _) (.cons (.int _ _) (.cons (.int _ _) .nil)))
theorem lf_zero {c : Int} (h : c.fmod 4294967296 = 0) : lf c = some (32, 0, 0) := by
  have e : one c = some (32, 0, 0) := by unfold one; rw [if_pos h]
  unfold lf; rw [e]
theorem lf_one {c : Int} (h : c.fmod 4294967296 ≠ 0) (h1 : ¬ pidx (c.fmod 4294967296) < 0) : lf c = some (pidx (c.fmod 4294967296), 0, 0) := by
  have e : one c = some (pidx (c.fmod 4294967296), 0, 0) := by unfold one; rw [if_neg h, if_neg h1]
  unfold lf; rw [e]
theorem one_none {c : Int} (h : c.fmod 4294967296 ≠ 0) (h1 : pidx (c.fmod 4294967296) < 0) : one c = none := by unfold one; rw [if_neg h, if_pos h1]
theorem map_dat_inj : ∀ {a b : List F3}, a.map dat = b.map dat → a = b
  | [], [], _ => rfl
  | [], _ :: _, h => by simp at h
  | _ :: _, [], h => by simp at h
  | x :: a, y :: b, h => by
    simp only [List.map_cons, List.cons.injEq] at h
    have e := odat_inj (a := some x) (b := some y) h.1
    rw [Option.some.inj e, map_dat_inj h.2]
theorem lf_fin {h₀ h : Heap} {L : Addr} {news tl9 kTl : List (Addr × Obj)} {q : Addr × Obj} {bv : Value} {bd : Dat} {c : Int} {ds : List Dat} (kN : News h₀ L h (q :: (news ++ tl9 ++ kTl))) (hm : q ∈ news ++ tl9) (hO9 : OwnOff tl9 (news.map (·.1)))
    (kO3 : OwnOff kTl (q.1 :: (news ++ tl9).map Prod.fst)) (kF : DatIn (q :: (news ++ tl9 ++ kTl)) bv bd) (kI : LP ds bd) (hT : IsTT c ds) (h1 : one c = none) :
    News h₀ L h (news ++ (tl9 ++ kTl)) ∧ OwnOff (tl9 ++ kTl) (news.map (·.1)) ∧ DatIn (news ++ (tl9 ++ kTl)) bv (odat (lf c)) := by
  refine ⟨?_, ?_, ?_⟩
  · rw [← List.append_assoc]
    exact fun p hp => kN p (.tail _ hp)
  · intro p hp b hb
    rcases List.mem_append.mp hp with hp | hp
    · exact hO9 p hp b hb
    · refine kO3 p hp b (.tail _ ?_)
      rw [List.map_append]
      exact List.mem_append.mpr (.inl hb)
  · obtain ⟨fs, e1, _, e2⟩ := kI
    have e3 : fs = tt c := map_dat_inj (e1.symm.trans hT.eq)
    have e4 : bd = odat (lf c) := by
      rw [e2, e3]
      unfold lf
      rw [h1]
    rw [← e4, ← List.append_assoc]
    refine DatIn.mono ?_ kF
    intro p hp
    rcases List.mem_cons.mp hp with rfl | hp
    · exact List.mem_append.mpr (.inl hm)
    · exact hp
theorem lf_tup {news : List (Addr × Obj)} {D : Addr} {o : Obj} (l1 : ∀ p ∈ news, p.1 < D) : OwnOff [(D, o)] (news.map (·.1)) := by
  intro p hp b hb
  obtain ⟨q, hq, rfl⟩ := List.mem_map.mp hb
  rw [List.mem_singleton.mp hp]
  exact (Nat.ne_of_lt (l1 q hq)).symm
theorem in3 {x : Addr × Obj} {nn kTl kOwn : List (Addr × Obj)} : ∀ p ∈ ([] : List (Addr × Obj)) ++ ((x :: nn) ++ ([] ++ kTl)), p ∈ x :: (nn ++ (kTl ++ kOwn)) := by
  intro p hp
  simp only [List.nil_append, List.cons_append, List.mem_cons, List.mem_append] at hp ⊢
  rcases hp with h | h | h
  · exact .inl h
  · exact .inr (.inl h)
  · exact .inr (.inr (.inl h))
theorem own3 {x : Addr × Obj} {nn kTl kOwn : List (Addr × Obj)} : ∀ p ∈ kOwn, p ∈ x :: (nn ++ (kTl ++ kOwn)) := fun p hp =>
  List.mem_cons_of_mem _ (List.mem_append.mpr (.inr (List.mem_append.mpr (.inr hp))))
theorem dat_inv {nx : List (Addr × Obj)} {v : Value} {f : F3} (h : DatIn nx v (dat f)) : ∃ a t1 t2 t3 n, v = .ref a ∧ (a, ({ cls := .type "tuple", data := .seq #[.int f.1 t1, .int f.2.1 t2, .int f.2.2 t3] n } : Obj)) ∈ nx := by
  unfold dat at h
  cases h with
  | tuple hm hd =>
    cases hd with
    | cons h1 hd =>
      cases hd with
      | cons h2 hd =>
        cases hd with
        | cons h3 hd =>
          cases hd
          cases h1
          cases h2
          cases h3
          exact ⟨_, _, _, _, _, rfl, hm⟩
theorem none_inv {nx : List (Addr × Obj)} {v : Value} (h : DatIn nx v .none) : v = .none := by cases h; rfl
theorem item_ok {c : Int} {ds : List Dat} {x : Dat} (h : IsTT c ds) (hx : x ∈ ds) : ∃ f, x = dat f ∧ okF f := by
  rw [h.eq] at hx
  obtain ⟨f, hf, rfl⟩ := List.mem_map.mp hx
  exact ⟨f, rfl, tt_ok f hf⟩
theorem news_cons {h₀ h : Heap} {L : Addr} {q : Addr × Obj} {news : List (Addr × Obj)} (N : News h₀ L h news) (hq : q ∈ news) : News h₀ L h (q :: news) := fun p hp => (List.mem_cons.mp hp).elim (fun e => e ▸ N q hq) (N p)
local macro_rules | `(tactic| ktr_rel) => `(tactic| exact fmod_ok _)
theorem c_lf (w : World) (p : Program) (loose : List Str) (mean : ExcName → Option Value) (mg mb : Str → Option Value) :
   ∀ d, Tel w p loose mean mg mb 56 lfT d := by
  have C1 := c_pi w p loose mean mg mb
  have C2 := c_fc w p loose mean mg mb
  have C3 := c_tt w p loose mean mg mb
  intro d
  unfold Tel
  k_with_none
  w_top off
  k_fill
  intro dp un gd cn cs a ccd cl outer A₀ base h₀ L m news s vs Q E B F X N T hk hR hok hd hu hret
  cases hR
  clear hok
  dsimp only [lfT] at hd hu
  k_with "call ref" =>
    (refine wpAny_call ?_
     k_dflt (refine' code_def ?k1 ?k2 ?k3 ?k4 ?k5 ?kA ?kF ?kK ?k6 ?k7 ?k8 ?k9 ?kB ?_ ?c2 ?c3 ?c4 ?c5; (case kA => exact rfl); (case kF => exact rfl); (case kK => first | exact rfl | assumption); (case k1 => k_asm); (case k2 => k_asm); (case k3 => k_asm); (case k4 => k_asm); (case k5 => k_asm); (case k6 => k_is); (case k7 => k_is); (case k8 => ktr_room); (case k9 => exact BindsTo.of_eq rfl); (case c5 => decide); (case kB => exact locs rfl); (case c2 => exact rfl); (case c3 => exact rfl); (case c4 => exact rfl); k_whole; intro g' L' h' FG' F' N' B' X' T'; (try dsimp only); (try k_fold)))
  k_with "call ref" => ktn_call "power_index" piT
  k_with "call ref" =>
    (k_dflt (refine tellsN_use (by k_asm) (by k_asm) (by k_asm) (by k_asm) (by k_asm) (by first | exact rfl | assumption) (F3Rel.mk (by kd_lift)) (C2 _) (by assumption) (by (dsimp only [fcT]; ktr_room)) (by (dsimp only [fcT]; ktr_units)) ?_)
     intro r9 tl9 h9 tk9 F9 N9 hl9 ht9 ho9
     obtain ⟨t9, e9⟩ := ho9
     subst e9
     dsimp only [fcT] at ht9
     subst ht9
     clear hl9
     simp only [List.append_nil] at N9
     (try dsimp only)
     (try k_fold))
  k_with "call ref" =>
    (k_dflt (refine tel_use (by k_asm) (by k_asm) (by k_asm) (by k_asm) (by k_asm) (by first | exact rfl | assumption) (PiRel.mk _ _) (C3 _) trivial (by (dsimp only [ttT]; ktr_room)) (by (dsimp only [ttT]; ktr_units)) ?_)
     intro r9 tl9 h9 tk9 F9 N9 hO9 ho9
     cases ho9
     rename_i l9 vs9 n9 ds9 hm9 hD9 hT9
     replace N9 := news_cons N9 hm9
     generalize hE : news ++ tl9 = nn at *
     (try dsimp only)
     (try k_fold))
  k_with "pyIter ref" =>
    k_here
    (rename Fr _ _ _ _ => lF'); (rename News _ _ _ _ => lN')
    with_unfolding_all refine kd_listL (σ := Value × Dat) (vs := vs9) (ds := ds9) (nn := n9) (fun c => []) ((l9, listOf vs9.toArray n9) :: nn) (fun c => [(Str.ofString "best", c.1)]) (fun L9 c => DatIn L9 c.1 c.2) [] (fun pre c => LP pre c.2) (l9 :: nn.map Prod.fst) (Value.none, Dat.none) (by rfl) (List.Mem.head _) (by rw [List.append_nil]; exact DatAll.mono (fun p hp => List.mem_cons_of_mem _ hp) hD9) lF' lN' (by intro p hp; simpa using hp) (by intro c; k_dflt rfl) DatIn.none (by kst_all) lp_start ?_ ?_
    all_goals clear lF' lN'
    all_goals first
      | (intro c kTl kPre kD kPost kV kU kH kTk kOwn kEq kMem kDat kSep kO4 kFacts kInv kFr kNews
         obtain ⟨bv, bd⟩ := c
         dsimp only at kFacts kInv kFr kNews
         obtain ⟨f, e9, kok⟩ := item_ok hT9 kMem
         subst e9
         obtain ⟨fa, ft1, ft2, ft3, fn, e8, fm⟩ := dat_inv kDat
         subst e8
         have kMark := kdMark
         have kMark1 := kstMark
         rcases lp_cases kInv with ⟨e7, kI⟩ | ⟨g, e7, gok, kI⟩
         all_goals subst e7
         all_goals clear kInv
         all_goals first
           | (have e6 := none_inv kFacts; subst e6)
           | (obtain ⟨ga, gt1, gt2, gt3, gn, e6, gm⟩ := dat_inv kFacts; subst e6)
         all_goals simp only [List.nil_append, List.cons_append] at *)
      | (intro c kTl kU kH kTk kO3 kFacts kInv kFr kNews
         obtain ⟨bv, bd⟩ := c
         dsimp only at kFacts kInv kFr kNews
         simp only [List.nil_append, List.cons_append] at kNews kFacts)
    all_goals (try k_fold)
  refine wpAny_call ?_
  k_dflt ktr_enter
  k_steps
  · exact hret _ [_] _ _ (by k_asm) (ktn_tl1 (by k_asm)) (lf_tup (by assumption)) (by dsimp only [lfT]; rw [lf_zero (by assumption)]; exact dat_mk (List.mem_append.mpr (.inr (.head _))))
  · refine kd_end (tl := kTl) (Value.ref fa, dat f) [] kSep (by k_asm) (by k_asm) in3 own3 (by rfl) (fun q h => nomatch h) (fun q h => nomatch h) (by intro p hp; rw [List.mem_singleton.mp hp]; rfl) (by intro z q1 q2 q3; have q4 := q2 _ (List.Mem.head _); simp only [kstB, if_neg q1, if_neg q4, List.contains_nil]; rfl) (by simp only [List.nil_append, List.cons_append]; exact kDat) (lp_first kI kok)
  · refine kd_end (tl := kTl) (Value.ref fa, dat f) [] kSep (by k_asm) (by k_asm) in3 own3 (by rfl) (fun q h => nomatch h) (fun q h => nomatch h) (by intro p hp; rw [List.mem_singleton.mp hp]; rfl) (by intro z q1 q2 q3; have q4 := q2 _ (List.Mem.head _); simp only [kstB, if_neg q1, if_neg q4, List.contains_nil]; rfl) (by simp only [List.nil_append, List.cons_append]; exact kDat) (lp_yes kI kok (by assumption))
  · refine kd_end (tl := kTl) (Value.ref ga, dat g) [] kSep (by k_asm) (by k_asm) in3 own3 (by rfl) (fun q h => nomatch h) (fun q h => nomatch h) (by intro p hp; rw [List.mem_singleton.mp hp]; rfl) (by intro z q1 q2 q3; have q4 := q2 _ (List.Mem.head _); simp only [kstB, if_neg q1, if_neg q4, List.contains_nil]; rfl) (by simp only [List.nil_append, List.cons_append]; exact kFacts) (lp_no kI kok (by assumption))
  · subst hE
    rename News h₀ L _ (_ :: (news ++ _ ++ _)) => kN9
    obtain ⟨r1, r2, r3⟩ := lf_fin kN9 hm9 hO9 kO3 kFacts kInv hT9 (one_none (by assumption) (by assumption))
    exact hret _ _ _ _ (by k_asm) r1 r2 r3
  · exact hret _ [_] _ _ (by k_asm) (ktn_tl1 (by k_asm)) (lf_tup (by assumption)) (by dsimp only [lfT]; rw [lf_one (by assumption) (by assumption)]; exact dat_mk (List.mem_append.mpr (.inr (.head _))))
end
section
theorem odat_cases {nx : List (Addr × Obj)} {v : Value} {c : Int} (h : DatIn nx v (odat (lf c))) : (lf c = none ∧ v = .none) ∨
    ∃ x y z a t1 t2 t3 n, lf c = some (x, y, z) ∧ 0 ≤ x ∧ x ≤ 32 ∧ (y = -1 ∨ y = 0 ∨ y = 1) ∧ 0 ≤ z ∧ z ≤ 32 ∧ v = .ref a ∧ (a, ({ cls := .type "tuple", data := .seq #[.int x t1, .int y t2, .int z t3] n } : Obj)) ∈ nx := by
  cases e : lf c with
  | none =>
    rw [e] at h
    exact .inl ⟨rfl, none_inv h⟩
  | some f =>
    rw [e] at h
    obtain ⟨a, t1, t2, t3, n, hv, hm⟩ := dat_inv h
    obtain ⟨x, y, z⟩ := f
    obtain ⟨o1, o2, o3, o4, o5⟩ := lf_ok e
    exact .inr ⟨x, y, z, a, t1, t2, t3, n, rfl, o1, o2, o3, o4, o5, hv, hm⟩
inductive PrRel (news : List (Addr × Obj)) : List Value → Int → Prop
  | mk (n : Int) (t1 t2 t3 t : Tok) : PrRel news [.int 1 t1, .int 2 t2, .int 3 t3, .int n t] n
inductive PrOut (nx : List (Addr × Obj)) : Value → Int → Prop
  | no {c : Int} : lf c = none → PrOut nx .none c
  | yes {c : Int} {f : F3} {l : Addr} {vs : List Value} {k : Nat} : lf c = some f → (l, listOf vs.toArray k) ∈ nx → (vs.length : Int) = cost f → PrOut nx (.ref l) c
abbrev prT : Con Int where
  Rel := PrRel
  Ok := fun _ => True
  size := 4
  Out := PrOut
theorem pr_end {h₀ h : Heap} {L : Addr} {news tl9 es : List (Addr × Obj)} {l : Addr} {vs : List Value} {k : Nat} {c : Int} {f : F3} (kN : News h₀ L h ((l, listOf vs.toArray k) :: es)) (hs : ∀ p ∈ news ++ tl9, p ∈ es) (hlt : AllLt l (news ++ tl9)) (hO9 : OwnOff tl9 (news.map (·.1)))
    (e : lf c = some f) (hc : (vs.length : Int) = cost f) : News h₀ L h (news ++ ((l, listOf vs.toArray k) :: tl9)) ∧ OwnOff ((l, listOf vs.toArray k) :: tl9) (news.map (·.1)) ∧ PrOut (news ++ ((l, listOf vs.toArray k) :: tl9)) (.ref l) c := by
  refine ⟨fun p hp => kN p ?_, fun p hp b hb => ?_, .yes e (List.mem_append.mpr (.inr (.head _))) hc⟩
  · rcases List.mem_append.mp hp with hp | hp
    · exact .tail _ (hs p (List.mem_append.mpr (.inl hp)))
    · rcases List.mem_cons.mp hp with rfl | hp
      · exact .head _
      · exact .tail _ (hs p (List.mem_append.mpr (.inr hp)))
  · rcases List.mem_cons.mp hp with rfl | hp
    · obtain ⟨q, hq, rfl⟩ := List.mem_map.mp hb
      exact (Nat.ne_of_lt (ktn_ltOf hlt q (List.mem_append.mpr (.inl hq)))).symm
    · exact hO9 p hp b hb
theorem c_pr (w : World) (p : Program) (loose : List Str) (mean : ExcName → Option Value) (mg mb : Str → Option Value) :
   ∀ d, Tel w p loose mean mg mb 70 prT d := by
  have C4 := c_lf w p loose mean mg mb
  intro d
  unfold Tel
  k_with_none
  w_top off
  k_fill
  intro dp un gd cn cs a ccd cl outer A₀ base h₀ L m news s vs Q E B F X N T hk hR hok hd hu hret
  cases hR
  clear hok
  dsimp only [prT] at hd hu
  k_with "call ref" => 
    (refine wpAny_call ?_
     k_dflt (refine code_def (by k_asm) (by k_asm) (by k_asm) (by k_asm) (by k_asm) rfl rfl (by first | exact rfl | assumption) (by k_is) (by k_is) (by ktr_room) (by exact BindsTo.of_eq rfl) (by exact locs rfl) ?_ (by exact rfl) (by exact rfl) (by exact rfl) (by decide); k_whole; intro g' L' h' FG' F' N' B' X' T'; (try dsimp only); (try k_fold)))
  k_with "call ref" =>
    (k_dflt (refine tel_use (by k_asm) (by k_asm) (by k_asm) (by k_asm) (by k_asm) (by first | exact rfl | assumption) (PiRel.mk _ _) (C4 _) trivial (by (dsimp only [lfT]; ktr_room)) (by (dsimp only [lfT]; ktr_units)) ?_)
     intro r9 tl9 h9 tk9 F9 N9 hO9 ho9
     rcases odat_cases ho9 with ⟨e9, e8⟩ | ⟨x, y, z, ta, t1, t2, t3, tn, e9, k1, k2, k3, k4, k5, e8, hm9⟩
     all_goals subst e8
     all_goals (try (replace N9 := news_cons N9 hm9))
     all_goals (try dsimp only)
     all_goals (try k_fold))
  refine wpAny_call ?_
  k_dflt ktr_enter
  k_steps
  · exact hret _ tl9 _ _ (by k_asm) (by k_asm) hO9 (.no e9)
  all_goals
    rename News h₀ L _ (_ :: _) => kN9
    obtain ⟨r1, r2, r3⟩ := pr_end kN9 (news := news) (tl9 := tl9) (by intro p hp; repeat (first | exact hp | refine List.Mem.tail _ ?_)) (by first
      | (rename AllLt _ (news ++ tl9) => q; exact q)
      | (rename _ ∧ AllLt _ (news ++ tl9) => q; exact q.2)
      | (rename _ ∧ _ ∧ AllLt _ (news ++ tl9) => q; exact q.2.2)
      | (rename _ ∧ _ ∧ _ ∧ AllLt _ (news ++ tl9) => q; exact q.2.2.2)
      | (rename _ ∧ _ ∧ _ ∧ _ ∧ AllLt _ (news ++ tl9) => q; exact q.2.2.2.2)
      | (rename _ ∧ _ ∧ _ ∧ _ ∧ _ ∧ AllLt _ (news ++ tl9) => q; exact q.2.2.2.2.2)
      | (rename _ ∧ _ ∧ _ ∧ _ ∧ _ ∧ _ ∧ AllLt _ (news ++ tl9) => q; exact q.2.2.2.2.2.2)
      | (rename _ ∧ _ ∧ _ ∧ _ ∧ _ ∧ _ ∧ _ ∧ AllLt _ (news ++ tl9) => q; exact q.2.2.2.2.2.2.2)
      | (rename _ ∧ _ ∧ _ ∧ _ ∧ _ ∧ _ ∧ _ ∧ _ ∧ AllLt _ (news ++ tl9) => q; exact q.2.2.2.2.2.2.2.2)
      | (rename _ ∧ _ ∧ _ ∧ _ ∧ _ ∧ _ ∧ _ ∧ _ ∧ _ ∧ AllLt _ (news ++ tl9) => q; exact q.2.2.2.2.2.2.2.2.2)
      | (rename _ ∧ _ ∧ _ ∧ _ ∧ _ ∧ _ ∧ _ ∧ _ ∧ _ ∧ _ ∧ AllLt _ (news ++ tl9) => q; exact q.2.2.2.2.2.2.2.2.2.2)
      | (rename _ ∧ _ ∧ _ ∧ _ ∧ _ ∧ _ ∧ _ ∧ _ ∧ _ ∧ _ ∧ _ ∧ AllLt _ (news ++ tl9) => q; exact q.2.2.2.2.2.2.2.2.2.2.2)
      | (rename _ ∧ _ ∧ _ ∧ _ ∧ _ ∧ _ ∧ _ ∧ _ ∧ _ ∧ _ ∧ _ ∧ _ ∧ AllLt _ (news ++ tl9) => q; exact q.2.2.2.2.2.2.2.2.2.2.2.2)
      | (rename _ ∧ _ ∧ _ ∧ _ ∧ _ ∧ _ ∧ _ ∧ _ ∧ _ ∧ _ ∧ _ ∧ _ ∧ _ ∧ AllLt _ (news ++ tl9) => q; exact q.2.2.2.2.2.2.2.2.2.2.2.2.2)
      | (rename _ ∧ _ ∧ _ ∧ _ ∧ _ ∧ _ ∧ _ ∧ _ ∧ _ ∧ _ ∧ _ ∧ _ ∧ _ ∧ _ ∧ AllLt _ (news ++ tl9) => q; exact q.2.2.2.2.2.2.2.2.2.2.2.2.2.2)
      | (rename _ ∧ _ ∧ _ ∧ _ ∧ _ ∧ _ ∧ _ ∧ _ ∧ _ ∧ _ ∧ _ ∧ _ ∧ _ ∧ _ ∧ _ ∧ AllLt _ (news ++ tl9) => q; exact q.2.2.2.2.2.2.2.2.2.2.2.2.2.2.2)) hO9 e9 (by (unfold cost; dsimp only [List.length]; (repeat' split) <;> omega))
    exact hret _ _ _ _ (by k_asm) r1 r2 r3
end
section
abbrev DS := List Value × List Int × Nat × Int × Tok
abbrev dLed (l : Addr) (news : List (Addr × Obj)) : DS → List (Addr × Obj) := fun c => (l, listOf c.1.toArray c.2.2.1) :: news
abbrev dPs : DS → List (Str × Value) := fun c => [(Str.ofString "rest", .int c.2.2.2.1 c.2.2.2.2)]
abbrev dFa : DS → Prop := fun c => IntsAre c.1 c.2.1
abbrev dP (n : Int) : DS → Prop := fun c => DG n c.2.1 c.2.2.2.1
abbrev dMu : DS → Nat := fun c => 32 - c.2.1.length
theorem DG.len {n : Int} {found : List Int} {rest : Int} (h : DG n found rest) : found.length ≤ 32 := by cases h; assumption
theorem DG.eq {n : Int} {found : List Int} {rest : Int} (h : DG n found rest) : digs 32 n = found ++ digs (32 - found.length) rest := by cases h; assumption
theorem dg_start (n : Int) : DG n [] n := .mk (Nat.zero_le _) rfl
theorem dg_step {n r g : Int} {found : List Int} (h : DG n found r) (hr : r ≠ 0) (hl : found.length < 32) (hg : g = dig r) : DG n (found ++ [g]) ((r - g).fdiv 2) := by
  subst hg
  refine .mk (by rw [List.length_append]; simp; omega) ?_
  obtain ⟨k, hk⟩ : ∃ k, 32 - found.length = k + 1 := ⟨31 - found.length, by omega⟩
  have e : 32 - (found ++ [dig r]).length = k := by rw [List.length_append]; simp; omega
  rw [h.eq, hk, e, List.append_assoc]
  have e2 : digs (k + 1) r = dig r :: digs k (nxt r) := by rw [digs, if_neg hr]
  rw [e2]; rfl
theorem dg_zero {n : Int} {found : List Int} (h : DG n found 0) : digs 32 n = found := by
  rw [h.eq]
  have : ∀ k, digs k 0 = [] := by intro k; cases k <;> rfl
  rw [this, List.append_nil]
theorem dg_full {n r : Int} {found : List Int} (h : DG n found r) (hl : ¬ found.length < 32) : digs 32 n = found := by
  have e := h.len
  have e2 : 32 - found.length = 0 := by omega
  rw [h.eq, e2]
  exact List.append_nil _
theorem dig_yes {r : Int} (h : r.fmod 2 = 1) : 2 - r.fmod 4 = dig r := by unfold dig; rw [if_pos h]
theorem dig_no {r : Int} (h : r.fmod 2 ≠ 1) : 0 = dig r := by unfold dig; rw [if_neg h]
theorem dg_fin {h₀ g h : Heap} {L D : Addr} {m : Str → Option Value} {news : List (Addr × Obj)} {q : Addr × Obj} {ys : List Value} {ns : List Int} {d : Int} (FG : Fr h₀ L g m) (N : News h₀ L h (q :: news)) (hD : g.get? D = none) (hl : h.IsList D ys.toArray)
    (hc : CarriedAll ys (List.map PyData.int (List.filter (fun a => a != 0) ns))) (e : digs 32 d = ns) :
    ∃ o n, News h₀ L h ((D, o) :: news) ∧ o.cls = .type "list" ∧ o.data = .seq (List.toArray ys) n ∧ IntsAre ys ((digs 32 d).filter (fun a => a != 0)) := by
  obtain ⟨o, ho, hcl, n, hdt⟩ := hl
  refine ⟨o, n, ?_, hcl, hdt, by rw [e]; exact IntsAre.ofCarried hc⟩
  intro p hp
  rcases List.mem_cons.mp hp with rfl | hp
  · refine ⟨ho, ?_, ?_⟩
    · intro (eL : D = L)
      obtain ⟨oL, _, _, hoL, _⟩ := FG.ns
      rw [eL] at hD
      rw [hoL] at hD
      exact absurd hD (by simp)
    · cases e9 : h₀.get? D with
      | none => rfl
      | some o9 => rw [FG.keep _ _ e9] at hD; exact absurd hD (by simp)
  · exact N p (.tail _ hp)
theorem dig_joined {r g : Int} (h : r.fmod 2 = 1 ∧ g = 2 - r.fmod 4 ∨ ¬ r.fmod 2 = 1 ∧ g = 0) : g = dig r := by
  unfold dig
  rcases h with ⟨a, b⟩ | ⟨a, b⟩
  · rw [if_pos a, b]
  · rw [if_neg a, b]
section
variable {prog : Program} {w : World} {A : Around} {E : Value → Shared → Prop} {Q : Flow → Shared → Prop} {s : Shared} {env : Env} {h₀ : Heap} {L : Addr}
theorem dg_while {test : PySem.Expr} {body : List Stmt} {pos : Pos} {m₀ : Str → Option Value} {l : Addr} {k₀ : Nat} {news : List (Addr × Obj)} {n : Int} {t : Tok} (F : Fr h₀ L s.heap m₀) (N : News h₀ L s.heap ((l, listOf #[] k₀) :: news)) (hr : m₀ (Str.ofString "rest") = some (.int n t))
    (turn : ∀ (vs : List Value) (ns : List Int) (k : Nat) (r : Int) (tk : Tok) (u : Str → Option Value) h tk', IntsAre vs ns → DG n ns r → Fr h₀ L h (kstB (fun z => if [Str.ofString "digit"].contains z then u z else m₀ z) [(Str.ofString "rest", .int r tk)]) → News h₀ L h ((l, listOf vs.toArray k) :: news) →
      wpAny (model prog w) A (isTrue test env (eval test env)) (fun b s₂ =>
        if b = true then wpAny (model prog w) A (execs body env) (KswPost h₀ L s (dLed l news) dPs dFa [Str.ofString "digit"] m₀ (dP n) dMu Q (vs, ns, k, r, tk)) E s₂ else Q .next s₂) E { s with heap := h, toks := tk' })
    (hE : PassesOwn (model prog w) A env E := by passes_own) :
    wpAny (model prog w) A (exec (.While test body [] pos) env) Q E s := by
  refine ksw_while (dLed l news) dPs dFa [Str.ofString "digit"] (dP n) dMu (([], [], k₀, n, t) : DS) F N IntsAre.nil ?_ (dg_start n) ?_ hE
  · intro p hp
    rw [List.mem_singleton.mp hp]
    exact hr
  · rintro ⟨vs, ns, k, r, tk⟩ u h tk' hf hp F' N'
    exact turn vs ns k r tk u h tk' hf hp F' N'
theorem my_len {news : List (Addr × Obj)} {us : List Value} {ns : List Int} {n : Nat} {l : Addr} {Q : Value → Shared → Prop} (N : News h₀ L s.heap news) (hm : (l, listOf us.toArray n) ∈ news) (hI : IntsAre us ns) (hfit : ns.length ≤ 32)
    (h : Q (.int (ns.length : Int) (s.toks + 1)) { s with toks := s.toks + 1 + 1 }) : wpAny (model prog w) A (call (.builtin "len") [.ref l]) Q E s := by
  have hl : s.heap.IsList l us.toArray := ⟨_, (N _ hm).1, rfl, n, rfl⟩
  have e : us.toArray.size = ns.length := by rw [List.size_toArray, IntsAre.length hI]
  exact len_list hl (by rw [e]; omega) (by rw [e]; exact h)
theorem dg_end {vs : List Value} {ns : List Int} {k : Nat} {r g : Int} {tk t1 t2 : Tok} {n : Int} {l : Addr} {news : List (Addr × Obj)} {m₀ m' : Str → Option Value} {h' : Heap} {tk' : Nat} (hI : IntsAre vs ns) (hD : DG n ns r) (hr : r ≠ 0) (hl : ns.length < 32) (hg : g = dig r)
    (F : Fr h₀ L h' m') (N : News h₀ L h' ((l, listOf (vs.toArray.push (.int g t1)) (k + 1)) :: news)) (h1 : m' (Str.ofString "rest") = some (.int ((r - g).fdiv 2) t2)) (h2 : ∀ z, z ≠ Str.ofString "rest" → z ≠ Str.ofString "digit" → m' z = m₀ z) :
    KswEnd h₀ L s (dLed l news) dPs dFa [Str.ofString "digit"] m₀ (dP n) dMu (vs, ns, k, r, tk) { s with heap := h', toks := tk' } := by
  rw [List.push_toArray] at N
  refine ksw_end (c := ((vs, ns, k, r, tk) : DS)) ((vs ++ [.int g t1], ns ++ [g], k + 1, (r - g).fdiv 2, t2) : DS) F N (fun p hp => hp) (IntsAre.append hI (.cons _ _ .nil)) ?_ ?_ (dg_step hD hr hl hg) ?_
  · intro p hp
    rw [List.mem_singleton.mp hp]
    exact h1
  · intro z q1 q2
    refine h2 z (q1 _ (List.Mem.head _)) fun e => ?_
    subst e
    simp at q2
  · have e : (ns ++ [g]).length = ns.length + 1 := by simp
    show 32 - (ns ++ [g]).length < 32 - ns.length
    rw [e]; omega
end
theorem c_dg (w : World) (p : Program) (loose : List Str) (mean : ExcName → Option Value) (mg mb : Str → Option Value) :
   ∀ d, DgT w p loose mean mg mb d := by
  intro d
  unfold DgT
  k_with_none
  w_top off
  k_fill
  intro dp un gd cn cs a ccd cl outer A₀ base h₀ L m news s td Q E B F X N T hk hd hu hret
  k_with "exec While BoolOp cons nil" =>
    (rename Fr _ _ _ _ => lF'); (rename News _ _ _ _ => lN')
    with_unfolding_all refine dg_while lF' lN' (by with_unfolding_all rfl) ?_
    clear lF' lN'
    intro vs ns k r tk u h tk' kI kD kFr kNews
    have kLen := kD.len
    have kLenV := IntsAre.length kI
    (try k_fold)
  k_with "call builtin:len" => k_dflt (refine my_len kNews (List.Mem.head _) kI kLen ?_)
  k_with "KswEnd" => first
    | (refine dg_end kI kD (by assumption) (by omega) (dig_yes (by assumption)) (by k_asm) (by k_asm) (by with_unfolding_all rfl) (by intro z q1 q2; simp [q1, q2, kstB]))
    | (refine dg_end kI kD (by assumption) (by omega) (dig_no (by assumption)) (by k_asm) (by k_asm) (by with_unfolding_all rfl) (by intro z q1 q2; simp [q1, q2, kstB]))
  refine wpAny_call ?_
  k_dflt ktr_enter
  k_steps
  · rename Heap.get? _ _ = none => hD9
    obtain ⟨o, n, r1, r2, r3, r4⟩ := dg_fin (h₀ := h₀) (L := L) (by assumption) (by k_asm) hD9 (by assumption) (by assumption) (dg_full kD (by omega))
    exact hret _ _ _ _ _ _ (by k_asm) r1 r2 r3 r4
  · rename r = 0 => h9
    subst h9
    rename Heap.get? _ _ = none => hD9
    obtain ⟨o, n, r1, r2, r3, r4⟩ := dg_fin (h₀ := h₀) (L := L) (by assumption) (by k_asm) hD9 (by assumption) (by assumption) (dg_zero kD)
    exact hret _ _ _ _ _ _ (by k_asm) r1 r2 r3 r4
end
section
theorem digs_len : ∀ k n, (digs k n).length ≤ k
  | 0, _ => Nat.le_refl _
  | k + 1, n => by
    rw [digs]
    split
    · exact Nat.zero_le _
    · exact Nat.succ_le_succ (digs_len k _)
theorem nzd_len (n : Int) : ((digs 32 n).filter (fun a => a != 0)).length ≤ 32 := Nat.le_trans (List.length_filter_le _ _) (digs_len 32 n)
theorem unr_end_keep {h₀ : Heap} {L I : Addr} {it : Obj} {rest : (Str → Option Value) → List (Addr × Obj) → Prop} {s₁ : Shared} {h' : Heap} {tk : Nat} {m' : Str → Option Value} {all keep : List (Addr × Obj)} (lt : ∀ p ∈ keep, p.1 < I) (F : Fr h₀ L h' m') (N : News h₀ L h' all)
    (sub : ∀ p ∈ (I, it) :: keep, p ∈ all) (r : rest m' keep) : UnrEnd h₀ L s₁ I it rest { s₁ with heap := h', toks := tk } :=
  UnrEnd.intro F N keep sub (fun p hp => Nat.ne_of_lt (lt p hp)) r
section
variable {prog : Program} {w : World} {A : Around} {E : Value → Shared → Prop} {s : Shared} {h₀ : Heap} {L : Addr}
theorem my_isl {news : List (Addr × Obj)} {us : List Value} {n : Nat} {l : Addr} {o : Obj} (N : News h₀ L s.heap news) (hm : (l, o) ∈ news) (hc : o.cls = .type "list") (hd : o.data = .seq (List.toArray us) n) : s.heap.IsList l us.toArray := ⟨o, (N _ hm).1, hc, n, hd⟩
theorem my_len2 {news : List (Addr × Obj)} {us : List Value} {ns : List Int} {n : Nat} {l : Addr} {o : Obj} {Q : Value → Shared → Prop} (N : News h₀ L s.heap news) (hm : (l, o) ∈ news) (hc : o.cls = .type "list") (hd : o.data = .seq (List.toArray us) n) (hI : IntsAre us ns) (hfit : ns.length ≤ 32)
    (h : Q (.int (ns.length : Int) (s.toks + 1)) { s with toks := s.toks + 1 + 1 }) : wpAny (model prog w) A (call (.builtin "len") [.ref l]) Q E s := by
  have e : us.toArray.size = ns.length := by rw [List.size_toArray, IntsAre.length hI]
  exact len_list (my_isl N hm hc hd) (by rw [e]; omega) (by rw [e]; exact h)
end
theorem chk_lt {ds : List Int} (h : (ds.length : Int) < 2) : chk ds = true := by
  have : ds.length < 2 := by omega
  simp [chk, this]
theorem chk_two {ds : List Int} (h : (ds.length : Int) = 2) (h2 : ds ≠ [-1, -1]) : chk ds = true := by
  have : ds.length = 2 := by omega
  simp [chk, this, h2]
theorem chk_bad {ds : List Int} (h2 : ds = [-1, -1]) : chk ds = false := by
  subst h2; decide
theorem chk_big {ds : List Int} (h : ¬ (ds.length : Int) < 2) (h2 : (ds.length : Int) ≠ 2) : chk ds = false := by
  have a : ¬ ds.length < 2 := by omega
  have b : ¬ ds.length = 2 := by omega
  simp [chk, a, b]
theorem pow32 : (2 : Int) ^ Int.toNat 32 = 4294967296 := by decide
theorem hf_t1 {d : Int} (h : chk ((digs 32 (d.fmod (2 ^ Int.toNat 32))).filter (fun a => a != 0)) = true) : Value.bool true = .bool (hasF d) := by
  rw [pow32] at h
  unfold hasF nzd
  rw [h]; rfl
theorem hf_t2 {d : Int} (h : chk ((digs 32 (d.fmod (2 ^ Int.toNat 32) - 2 ^ Int.toNat 32)).filter (fun a => a != 0)) = true) : Value.bool true = .bool (hasF d) := by
  rw [pow32] at h
  unfold hasF nzd
  rw [h, Bool.or_true]
theorem hf_f {d : Int} (h1 : chk ((digs 32 (d.fmod (2 ^ Int.toNat 32))).filter (fun a => a != 0)) = false) (h : chk ((digs 32 (d.fmod (2 ^ Int.toNat 32) - 2 ^ Int.toNat 32)).filter (fun a => a != 0)) = false) : Value.bool false = .bool (hasF d) := by
  rw [pow32] at h h1
  unfold hasF nzd
  rw [h, h1]; rfl
theorem c_hf (w : World) (p : Program) (loose : List Str) (mean : ExcName → Option Value) (mg mb : Str → Option Value) :
   ∀ d, TellsN PySem.Challenge.rw_pq0740_01.row.prog w (hd.heap_39 w.params) p loose mean mg mb 96 hfT d := by
  k_with_none
  w_top off
  k_fill
  have C6 := c_dg w p loose mean mg mb
  refine tellsN_of fun d IH => ?_
  clear IH
  unfold TellsN
  intro dp un gd cn cs a ccd cl outer A₀ base h₀ L m news s vs Q E B F X N T hk hR hok hd hu hret
  cases hR
  clear hok
  dsimp only [hfT] at hd hu
  k_with "call ref" =>
    (k_dflt (refine dg_use (by k_asm) (by k_asm) (by k_asm) (by k_asm) (by k_asm) (by first | exact rfl | assumption) (C6 _) (by ktr_room) (by ktr_units) ?_)
     intro l9 o9 vs9 n9 h9 tk9 F9 N9 hc9 hd9 hi9
     have hn9 := nzd_len
     (try dsimp only)
     (try k_fold))
  k_with "call builtin:len" => k_dflt (refine my_len2 (by k_asm) (List.Mem.head _) hc9 hd9 hi9 (nzd_len _) ?_)
  k_with "compareOp NotEq ref ref" => k_dflt (refine ke_ne_ints (my_isl (by k_asm) (by k_mem) hc9 hd9) (my_isl (by k_asm) (List.Mem.head _) rfl rfl) hi9 (IntsAre.cons _ _ (IntsAre.cons _ _ IntsAre.nil)) (by ktr_units) ?_)
  k_with "pyIter ref" =>
    (rename Fr _ _ _ _ => lF'); (rename News _ _ _ (_ :: _) => lN')
    with_unfolding_all refine iter_listUnr (by rfl) lF' lN' (List.Mem.head _) (by rfl) (by rfl) ?_
    clear lF' lN'
    intro i' l2
  k_with "UnrEnd" => (k_dflt (refine unr_end_keep l2 (by k_asm) (by k_asm) (by intro p hp; repeat (first | exact hp | refine List.Mem.tail _ ?_)) ⟨List.Mem.head _, ?_⟩))
  refine wpAny_call ?_
  k_dflt ktr_enter
  k_steps
  all_goals
    rename News h₀ L _ (_ :: _) => kN9
    have kN8 : News h₀ L _ news := fun p hp => kN9 p (by repeat (first | exact hp | refine List.Mem.tail _ ?_))
    refine hret _ [] _ _ (by k_asm) (ktn_tl0 kN8) ktn_ord0 rfl ?_
    first
      | exact hf_t1 (chk_lt (by assumption))
      | exact hf_t1 (chk_two (by assumption) (by assumption))
      | exact hf_t2 (chk_lt (by assumption))
      | exact hf_t2 (chk_two (by assumption) (by assumption))
      | exact hf_f (chk_bad (by assumption)) (chk_bad (by assumption))
      | exact hf_f (chk_bad (by assumption)) (chk_big (by assumption) (by assumption))
      | exact hf_f (chk_big (by assumption) (by assumption)) (chk_bad (by assumption))
      | exact hf_f (chk_big (by assumption) (by assumption)) (chk_big (by assumption) (by assumption))
end
section
def LcT (w : World) (p : Program) (loose : List Str) (mean : ExcName → Option Value) (mg mb : Str → Option Value) (spot : Int) (ns : List Int) : Prop :=
  ∀ (dp un : Nat) (gd : Option (List Code)) (cn : Str) (cs : Scope) (a : Addr) (ccd : Value) (cl : List (Str × Addr)) (outer : List Env) (A₀ : Around) (base h₀ : Heap) (L : Addr) (m : Str → Option Value) (news : List (Addr × Obj)) (s : Shared) (l : Addr) (vs : List Value) (ts : Tok)
    (Q E : Value → Shared → Prop),
    Below A₀ base outer h₀ → Fr h₀ L s.heap m → (hd.heap_39 w.params).In h₀ → News h₀ L s.heap news → Top p loose mean mg mb h₀ → cs.kind = .function → dp + 2 < recursionLimit → un + 16 < cLine →
    base.IsList l vs.toArray → IntsAre vs ns → (PyData.list (List.map PyData.int ns)).layable0 = true →
    (∀ c t h' tk', Fr h₀ L h' m → News h₀ L h' news → Q (.int c t) { s with heap := h', toks := tk' }) →
    wpAny (model PySem.Challenge.rw_pq0740_01.row.prog w) (ktrTop dp un gd cn cs L a ccd cl outer) (call (.ref 84) [.ref l, .int spot ts]) Q E s
theorem c_lc0 (w : World) (p : Program) (loose : List Str) (mean : ExcName → Option Value) (mg mb : Str → Option Value) (spot : Int) (hs0 : 0 ≤ spot) (hs1 : spot ≤ 3) :
   ∀ ns, LcT w p loose mean mg mb spot ns := by
  intro ns
  unfold LcT
  k_with_none
  w_top off
  k_fill
  intro dp un gd cn cs a ccd cl outer A₀ base h₀ L m news s l vs ts Q E B F X N T hk hd hu hL hI hlay hret
  have hl1 := IntsAre.length hI
  k_with "call ref" =>
    (refine wpAny_call ?_
     k_dflt (refine code_def (by k_asm) (by k_asm) (by k_asm) (by k_asm) (by k_asm) rfl rfl (by first | exact rfl | assumption) (by k_is) (by k_is) (by ktr_room) (by exact BindsTo.of_eq rfl) (by exact locs rfl) ?_ (by exact rfl) (by exact rfl) (by exact rfl) (by decide); k_whole; intro g' L' h' FG' F' N' B' X' T'; (try dsimp only); (try k_lift B'); (try k_fold)))
  refine wpAny_call ?_
  k_dflt ktr_enter
  k_steps
  · exact hret _ _ _ _ (by k_asm) (by k_asm)
  · exact hret _ _ _ _ (by k_asm) (by k_asm)
  · rename News h₀ L _ (_ :: _) => kN9
    exact hret _ _ _ _ (by k_asm) (fun p hp => kN9 p (by repeat (first | exact hp | refine List.Mem.tail _ ?_)))
theorem lc_use {w : World} {p : Program} {loose : List Str} {mean : ExcName → Option Value} {mg mb : Str → Option Value} {spot : Int} {ns : List Int} {dp un : Nat} {gd : Option (List Code)} {cn : Str} {cs : Scope} {a : Addr} {ccd : Value} {cl : List (Str × Addr)} {outer : List Env} {A₀ : Around} {base h₀ : Heap} {L : Addr} {m : Str → Option Value} {news : List (Addr × Obj)} {s : Shared} {l : Addr} {vs : List Value} {ts : Tok}
    {Q E : Value → Shared → Prop} (B : Below A₀ base outer h₀) (F : Fr h₀ L s.heap m) (X : (hd.heap_39 w.params).In h₀) (N : News h₀ L s.heap news) (T : Top p loose mean mg mb h₀) (hk : cs.kind = .function) (C : LcT w p loose mean mg mb spot ns)
    (hd : dp + 2 < recursionLimit) (hu : un + 16 < cLine) (hL : base.IsList l vs.toArray) (hI : IntsAre vs ns) (hlay : (PyData.list (List.map PyData.int ns)).layable0 = true)
    (ret : ∀ c t h' tk', Fr h₀ L h' m → News h₀ L h' news → Q (.int c t) { s with heap := h', toks := tk' }) :
    wpAny (model PySem.Challenge.rw_pq0740_01.row.prog w) (ktrTop dp un gd cn cs L a ccd cl outer) (call (.ref 84) [.ref l, .int spot ts]) Q E s := C _ _ _ _ _ _ _ _ _ _ _ _ _ _ _ _ _ _ _ _ _ B F X N T hk hd hu hL hI hlay ret
end
section
section
variable (w : World) (p : Program) (loose : List Str) (mean : ExcName → Option Value) (mg mb : Str → Option Value)
end
theorem pr_some {nx : List (Addr × Obj)} {r : Value} {c : Int} {f : F3} (h : PrOut nx r c) (e : lf c = some f) : ∃ l vs k, r = .ref l ∧ (l, listOf (List.toArray vs) k) ∈ nx ∧ (vs.length : Int) = cost f := by
  cases h with
  | no e2 => rw [e] at e2; cases e2
  | yes e2 hm hc =>
    rw [e] at e2
    cases e2
    exact ⟨_, _, _, rfl, hm, hc⟩
theorem pr_none {nx : List (Addr × Obj)} {r : Value} {c : Int} (h : PrOut nx r c) (e : lf c = none) : r = .none := by
  cases h with
  | no e2 => rfl
  | yes e2 hm hc => rw [e] at e2; cases e2
theorem item_tt {c : Int} {ds : List Dat} {x : Dat} (h : IsTT c ds) (hx : x ∈ ds) : ∃ f, x = dat f ∧ okF f ∧ f ∈ tt c := by
  rw [h.eq] at hx
  obtain ⟨f, hf, rfl⟩ := List.mem_map.mp hx
  exact ⟨f, rfl, tt_ok f hf, hf⟩
/- the plain law -/
theorem up3 {p x : Addr × Obj} {nn kTl kOwn : List (Addr × Obj)} (h : p ∈ x :: (nn ++ kTl)) : p ∈ x :: (nn ++ (kTl ++ kOwn)) := by
  rw [← List.append_assoc]
  exact (List.mem_cons.mp h).elim (fun e => e ▸ .head _) fun h => .tail _ (List.mem_append_left _ h)
theorem in1 {x : Addr × Obj} {kTl kOwn : List (Addr × Obj)} : ∀ p ∈ ([] : List (Addr × Obj)) ++ ([x] ++ ([] ++ kTl)), p ∈ x :: (kTl ++ kOwn) := by
  intro p hp
  simp only [List.nil_append, List.cons_append, List.mem_cons, List.mem_append] at hp ⊢
  rcases hp with h | h
  · exact .inl h
  · exact .inr (.inl h)
theorem own1 {x : Addr × Obj} {kTl kOwn : List (Addr × Obj)} : ∀ p ∈ kOwn, p ∈ x :: (kTl ++ kOwn) := fun p hp => .tail _ (List.mem_append_right _ hp)
/- the cut behind the loop's head -/
def SpotL (h₀ : Heap) (L : Addr) (m : Str → Option Value) (s : Shared) (v : Value) (s' : Shared) : Prop :=
  ∃ l vs ns k h tk, v = .ref l ∧ s' = { s with heap := h, toks := tk } ∧ Fr h₀ L h m ∧ News h₀ L h [(l, listOf (List.toArray vs) k)] ∧ IntsAre vs ns ∧ ∀ n ∈ ns, 0 ≤ n ∧ n ≤ 3
theorem spot_cut {M : Model} {A : Around} {E : Value → Shared → Prop} {Q : Value → Shared → Prop} {s : Shared} {t : Sem Value} {h₀ : Heap} {L : Addr} {m : Str → Option Value} (_F : Fr h₀ L s.heap m) (_N : News h₀ L s.heap [])
    (hw : wpAny M A t (SpotL h₀ L m s) E s)
    (hc : ∀ l vs ns k h tk, Fr h₀ L h m → News h₀ L h [(l, listOf (List.toArray vs) k)] → IntsAre vs ns → (∀ n ∈ ns, 0 ≤ n ∧ n ≤ 3) → Q (.ref l) { s with heap := h, toks := tk }) : wpAny M A t Q E s := by
  refine wpAny_mono hw (fun v s' h => ?_) fun _ _ h => h
  obtain ⟨l, vs, ns, k, h, tk, rfl, rfl, F, N, I, B⟩ := h
  exact hc l vs ns k h tk F N I B
theorem spot_end {h₀ h : Heap} {L : Addr} {m : Str → Option Value} {s : Shared} {l : Addr} {vs : List Value} {ns : List Int} {k : Nat} {tk : Nat} (F : Fr h₀ L h m) (N : News h₀ L h [(l, listOf (List.toArray vs) k)]) (I : IntsAre vs ns) (B : ∀ n ∈ ns, 0 ≤ n ∧ n ≤ 3) :
    SpotL h₀ L m s (.ref l) { s with heap := h, toks := tk } := ⟨l, vs, ns, k, h, tk, rfl, rfl, F, N, I, B⟩
section
variable {prog : Program} {w : World} {A : Around} {E : Value → Shared → Prop} {s : Shared} {h₀ : Heap} {L : Addr}
theorem my_len3 {news : List (Addr × Obj)} {us : List Value} {k : Nat} {l : Addr} {x : Int} {Q : Value → Shared → Prop} (N : News h₀ L s.heap news) (hm : (l, listOf us.toArray k) ∈ news) (e : (us.length : Int) = x) (hx : x < 2 ^ 63)
    (h : Q (.int x (s.toks + 1)) { s with toks := s.toks + 1 + 1 }) : wpAny (model prog w) A (call (.builtin "len") [.ref l]) Q E s := by
  have e2 : us.toArray.size = us.length := by rw [List.size_toArray]
  have hl : s.heap.IsList l us.toArray := ⟨_, (N _ hm).1, rfl, k, rfl⟩
  exact len_list hl (by rw [e2]; omega) (by rw [e2, e]; exact h)
theorem ne_nil2 {news : List (Addr × Obj)} {k1 k2 : Nat} {l1 l2 : Addr} {Q : Value → Shared → Prop} (N : News h₀ L s.heap news) (hm : (l1, listOf (List.toArray []) k1) ∈ news) (hm2 : (l2, listOf (List.toArray []) k2) ∈ news) (hu : A.units + 64 < cLine)
    (h : Q (.bool false) s) : wpAny (model prog w) A (compareOp .NotEq (.ref l1) (.ref l2)) Q E s :=
  ke_ne_ints (xs := []) (ys := []) ⟨_, (N _ hm).1, rfl, _, rfl⟩ ⟨_, (N _ hm2).1, rfl, _, rfl⟩ IntsAre.nil IntsAre.nil hu h
theorem ne_tup3 {news : List (Addr × Obj)} {x y z : Int} {t1 t2 t3 u1 u2 u3 : Tok} {k1 k2 : Nat} {l1 l2 : Addr} {Q : Value → Shared → Prop} (N : News h₀ L s.heap news)
    (hm : (l1, ({ cls := .type "tuple", data := .seq #[.int x t1, .int y t2, .int z t3] k1 } : Obj)) ∈ news) (hm2 : (l2, ({ cls := .type "tuple", data := .seq #[.int x u1, .int y u2, .int z u3] k2 } : Obj)) ∈ news) (hu : A.units + 64 < cLine)
    (h : Q (.bool false) s) : wpAny (model prog w) A (compareOp .NotEq (.ref l1) (.ref l2)) Q E s :=
  ne_dataH_same (reads_tuple_at (N _ hm).1 rfl rfl (.cons (.int _ _) (.cons (.int _ _) (.cons (.int _ _) .nil)))) (reads_tuple_at (N _ hm2).1 rfl rfl (.cons (.int _ _) (.cons (.int _ _) (.cons (.int _ _) .nil))))
    (by rfl) (by rfl) hu (by rfl) (by simp only [PySem.Spec.same, PySem.Spec.sameAll]; simpa using h)
end
local macro_rules | `(tactic| walk_at "compareOp NotEq ref ref") => `(tactic| first
  | k_dflt (refine Mine.ne_nil2 (by k_asm) (List.Mem.tail _ (List.Mem.head _)) (List.Mem.head _) (by units_room) ?_)
  | k_dflt (refine Mine.ne_tup3 (by k_asm) (by assumption) (by assumption) (by units_room) ?_))
theorem law_holds : PySem.Challenge.rw_pq0740_01.Holds := hd (by
  k_with_none
  w_top off
  k_with "eval IfExp" =>
    fail_if_success (with_reducible show wpAny _ _ _ (SpotL _ _ _ _) _ _)
    (rename Fr _ _ _ _ => lF'); (rename News _ _ _ [] => lN')
    refine spot_cut lF' lN' ?_ ?_
    all_goals (try (intro l vs ns k h tk kF kN kI kB; clear lF' lN'))
    all_goals (try dsimp only)
    all_goals (try k_fold)
  k_with "pyIter ref" =>
    k_of "spot" =>
      (rename Fr _ _ _ _ => lF'); (rename News _ _ _ _ => lN')
      with_unfolding_all refine kd_listI (σ := Unit) (vs := vs) (ns := ns) (nn := k) (fun _ => []) [(l, listOf vs.toArray k)] (fun _ => []) (fun _ _ => True) [Str.ofString "constant", Str.ofString "form", Str.ofString "rows", Str.ofString "other"] (fun _ _ => True) [l] () (by rfl) (List.Mem.head _) kI lF' lN' (by intro p hp; simpa using hp) (by intro c; k_dflt rfl) trivial (fun p hp => nomatch hp) trivial ?_ ?_
      all_goals clear lF' lN'
      all_goals first
        | (intro c kTl kPre kPost kN kT kU kH kTk kOwn kEq kMem kSep kO4 kFacts kInv kFr kNews
           have kB' := kB kN kMem
           simp only [List.nil_append, List.cons_append] at kNews
           generalize hE : (l, listOf vs.toArray k) :: (kTl ++ kOwn) = nn at kNews
           have hSub : ∀ p ∈ (l, listOf vs.toArray k) :: (kTl ++ kOwn), p ∈ nn := fun p hp => hE ▸ hp
           clear hE)
        | (intro c kTl kU kH kTk kO3 kFacts kInv kFr kNews
           simp only [List.nil_append, List.cons_append] at kNews)
      all_goals (try k_fold)
  k_with "pyIter ref" =>
    k_of "other" =>
      (rename Fr _ _ _ _ => lF'); (rename News _ _ _ _ => lN')
      with_unfolding_all refine kd_listL (σ := Unit) (vs := vs9) (ds := ds9) (nn := n9) (fun _ => []) ((l9, listOf vs9.toArray n9) :: nn) (fun _ => []) (fun _ _ => True) [] (fun _ _ => True) (l9 :: nn.map Prod.fst) () (by rfl) (List.Mem.head _) (by rw [List.append_nil]; exact DatAll.mono (fun p hp => List.mem_cons_of_mem _ hp) hD9) lF' lN' (by intro p hp; simpa using hp) (by intro c; k_dflt rfl) trivial (fun p hp => nomatch hp) trivial ?_ ?_
      all_goals clear lF' lN'
      all_goals first
        | (intro c' iTl iPre iD iPost iV iU iH iTk iOwn iEq iMem iDat iSep iO4 iFacts iInv iFr iNews
           obtain ⟨f, e9, kok, hfm⟩ := item_tt hT9 iMem
           subst e9
           obtain ⟨fx, fy, fz⟩ := f
           obtain ⟨fa, ft1, ft2, ft3, fn, e8, fm⟩ := dat_inv iDat
           subst e8
           dsimp only at fm
           have hcmp := m7b eF hfm
           simp only [List.nil_append, List.cons_append] at iNews fm
           replace fm := up3 (kOwn := iOwn) fm
           replace hmF := List.mem_cons_of_mem (l9, listOf vs9.toArray n9) (List.mem_append_left (iTl ++ iOwn) hmF)
           generalize hE : (l9, listOf vs9.toArray n9) :: (nn ++ (iTl ++ iOwn)) = nn2 at iNews fm hmF
           have iSub : ∀ p ∈ (l9, listOf vs9.toArray n9) :: (nn ++ (iTl ++ iOwn)), p ∈ nn2 := fun p hp => hE ▸ hp
           clear hE iDat)
        | (intro c' iTl iU iH iTk iO3 iFacts iInv iFr iNews
           simp only [List.nil_append, List.cons_append] at iNews
           replace hSub := fun p hp => List.mem_cons_of_mem (l9, listOf vs9.toArray n9) (List.mem_append_left iTl (hSub p hp))
           clear hmF hmR hmG
           generalize (l9, listOf vs9.toArray n9) :: (nn ++ iTl) = nn2 at iNews hSub)
      all_goals (try k_fold)
  k_with "call ref" =>
    (k_dflt (refine lc_use (by k_asm) (by k_asm) (by k_asm) (by k_asm) (by k_asm) (by first | exact rfl | assumption) (c_lc0 _ _ _ _ _ _ _ kB'.1 kB'.2 _) (by ktr_room) (by ktr_units) (by assumption) (by assumption) (by assumption) ?_)
     intro c9 t9 h9 tk9 F9 N9
     (try dsimp only)
     (try k_fold))
  k_with "call ref" => first
    | -- least_form, the first time
      (fail_if_success (have q9 := hmF)
       k_dflt (refine tel_use (by k_asm) (by k_asm) (by k_asm) (by k_asm) (by k_asm) (by first | exact rfl | assumption) (PiRel.mk _ _) (c_lf _ _ _ _ _ _ _) trivial (by (dsimp only [lfT]; ktr_room)) (by (dsimp only [lfT]; ktr_units)) ?_)
       intro r9 tl9 h9 tk9 F9 N9 hO9 ho9
       replace hSub := fun p hp => List.mem_append_left tl9 (hSub p hp)
       rcases odat_cases ho9 with ⟨eF, e8⟩ | ⟨x, y, z, ta, t1, t2, t3, tn, eF, k1, k2, k3, k4, k5, e8, hmF⟩
       all_goals subst e8
       all_goals clear ho9 hO9
       all_goals generalize nn ++ tl9 = nn at *
       all_goals (try dsimp only)
       all_goals (try k_fold))
    | -- least_form, again
      (k_dflt (refine tel_use (by k_asm) (by k_asm) (by k_asm) (by k_asm) (by k_asm) (by first | exact rfl | assumption) (PiRel.mk _ _) (c_lf _ _ _ _ _ _ _) trivial (by (dsimp only [lfT]; ktr_room)) (by (dsimp only [lfT]; ktr_units)) ?_)
       intro r9 tl9 h9 tk9 F9 N9 hO9 ho9
       dsimp only [lfT] at ho9
       first | rw [m6a, eF] at ho9 | rw [m6b, eF] at ho9
       obtain ⟨tb, u1, u2, u3, un9, e8, hmG⟩ := dat_inv (f := (x, y, z)) ho9
       subst e8
       replace hSub := fun p hp => List.mem_append_left tl9 (hSub p hp)
       replace hmF := List.mem_append_left tl9 hmF
       clear ho9 hO9
       generalize nn ++ tl9 = nn at *
       (try dsimp only)
       (try k_fold))
    | -- product_rows
      (k_dflt (refine tel_use (by k_asm) (by k_asm) (by k_asm) (by k_asm) (by k_asm) (by first | exact rfl | assumption) (PrRel.mk _ _ _ _ _) (c_pr _ _ _ _ _ _ _) trivial (by (dsimp only [prT]; ktr_room)) (by (dsimp only [prT]; ktr_units)) ?_)
       intro r9 tl9 h9 tk9 F9 N9 hO9 ho9
       replace hSub := fun p hp => List.mem_append_left tl9 (hSub p hp)
       first
         | (replace hmF := List.mem_append_left tl9 hmF
            obtain ⟨lR, vsR, kR, e8, hmR, hcR⟩ := pr_some ho9 eF
            subst e8)
         | (have e8 := pr_none ho9 eF
            subst e8)
       clear ho9 hO9
       generalize nn ++ tl9 = nn at *
       (try dsimp only)
       (try k_fold))
    | -- _law_has_form
      (k_dflt (refine tellsN_use (by k_asm) (by k_asm) (by k_asm) (by k_asm) (by k_asm) (by first | exact rfl | assumption) (PiRel.mk _ _) (c_hf _ _ _ _ _ _ _) trivial (by (dsimp only [hfT]; ktr_room)) (by (dsimp only [hfT]; ktr_units)) ?_)
       intro r9 tl9 h9 tk9 F9 N9 hl9 ht9 ho9
       dsimp only [hfT] at ht9 ho9
       first | rw [m3n eF] at ho9 | rw [m3s eF] at ho9
       subst ht9
       subst ho9
       clear hl9
       simp only [List.append_nil] at N9
       (try dsimp only)
       (try k_fold))
    | -- form_value
      (k_dflt (refine tellsN_use (by k_asm) (by k_asm) (by k_asm) (by k_asm) (by k_asm) (by first | exact rfl | assumption) (F3Rel.mk (by first | assumption | kd_lift)) (c_fv _ _ _ _ _ _ _) (by first | exact ⟨k1, k2, k3, k4, k5⟩ | assumption) (by (dsimp only [fvT]; ktr_room)) (by (dsimp only [fvT]; ktr_units)) ?_)
       intro r9 tl9 h9 tk9 F9 N9 hl9 ht9 ho9
       obtain ⟨t9, e9⟩ := ho9
       dsimp only [fvT] at ht9
       first | rw [m5 eF] at e9 | rw [m7a hfm] at e9
       subst e9
       subst ht9
       clear hl9
       simp only [List.append_nil] at N9
       (try dsimp only)
       (try k_fold))
    | -- form_cost
      (k_dflt (refine tellsN_use (by k_asm) (by k_asm) (by k_asm) (by k_asm) (by k_asm) (by first | exact rfl | assumption) (F3Rel.mk (by first | assumption | kd_lift)) (c_fc _ _ _ _ _ _ _) (by first | exact ⟨k1, k2, k3, k4, k5⟩ | assumption) (by (dsimp only [fcT]; ktr_room)) (by (dsimp only [fcT]; ktr_units)) ?_)
       intro r9 tl9 h9 tk9 F9 N9 hl9 ht9 ho9
       obtain ⟨t9, e9⟩ := ho9
       dsimp only [fcT] at ht9
       subst e9
       subst ht9
       clear hl9
       simp only [List.append_nil] at N9
       (try dsimp only)
       (try k_fold))
    | -- two_terms
      (k_dflt (refine tel_use (by k_asm) (by k_asm) (by k_asm) (by k_asm) (by k_asm) (by first | exact rfl | assumption) (PiRel.mk _ _) (c_tt _ _ _ _ _ _ _) trivial (by (dsimp only [ttT]; ktr_room)) (by (dsimp only [ttT]; ktr_units)) ?_)
       intro r9 tl9 h9 tk9 F9 N9 hO9 ho9
       cases ho9
       rename_i l9 vs9 n9 ds9 hm9 hD9 hT9
       replace N9 := news_cons N9 hm9
       replace hSub := fun p hp => List.mem_append_left tl9 (hSub p hp)
       (try replace hmF := List.mem_append_left tl9 hmF)
       clear hO9
       (try (have e5 : ds9 = [] := by (rw [hT9.eq, m4 eF, List.map_nil])
             subst e5
             cases hD9))
       generalize nn ++ tl9 = nn at *
       (try dsimp only)
       (try k_fold))
  k_with "call builtin:len" => k_dflt (refine my_len3 (by k_asm) hmR hcR (by unfold cost; (repeat' split) <;> omega) ?_)
  k_go0
  (all_goals try k_fold)
  k_steps
  · exact spot_end (by k_asm) (by k_asm) (IntsAre.cons _ _ (IntsAre.cons _ _ IntsAre.nil)) (by intro n hn; simp at hn; omega)
  · exact spot_end (by k_asm) (by k_asm) (IntsAre.cons _ _ IntsAre.nil) (by intro n hn; simp at hn; omega)
  · refine kd_end (tl := kTl) () [] kSep (by k_asm) (by k_asm) (fun p hp => by (have q := hSub p (in1 p hp)); repeat (first | exact q | refine List.Mem.tail _ ?_)) (fun p hp => by (have q := hSub p (own1 p hp)); repeat (first | exact q | refine List.Mem.tail _ ?_)) (by rfl) (fun q h => nomatch h) (fun q h => nomatch h) (fun q h => nomatch h) (by
        intro z q1 q2 q3
        have q5 := q3
        simp only [List.contains_cons, List.contains_nil, Bool.or_false, Bool.or_eq_false_iff, beq_eq_false_iff_ne, ne_eq] at q5
        try obtain ⟨a1, a2, a3, a4⟩ := q5
        first
          | (simp only [kstB, if_neg q1, if_neg a1, if_neg a2, if_neg a3, if_neg a4, q3, Bool.false_eq_true, if_false]; done)
          | (simp only [kstB, if_neg q1, if_neg a1, if_neg a2, if_neg a3, if_neg a4, q3, Bool.false_eq_true, if_false]; rfl)
          | (simp [kstB, q1, a1, a2, a3, a4]; done)) trivial trivial
  · refine kd_end (tl := iTl) () [] iSep (by k_asm) (by k_asm) (fun p hp => iSub p (in3 p hp)) (fun p hp => iSub p (own3 p hp)) (by rfl) (fun q h => nomatch h) (fun q h => nomatch h) (fun q h => nomatch h) (by intro z q1 q2 q3; simp only [kstB, if_neg q1, List.contains_nil]; rfl) trivial trivial
  · refine kd_end (tl := kTl) () [] kSep (by k_asm) (by k_asm) (fun p hp => by (have q := hSub p (in1 p hp)); repeat (first | exact q | refine List.Mem.tail _ ?_)) (fun p hp => by (have q := hSub p (own1 p hp)); repeat (first | exact q | refine List.Mem.tail _ ?_)) (by rfl) (fun q h => nomatch h) (fun q h => nomatch h) (fun q h => nomatch h) (by
        intro z q1 q2 q3
        have q5 := q3
        simp only [List.contains_cons, List.contains_nil, Bool.or_false, Bool.or_eq_false_iff, beq_eq_false_iff_ne, ne_eq] at q5
        try obtain ⟨a1, a2, a3, a4⟩ := q5
        first
          | (simp only [kstB, if_neg q1, if_neg a1, if_neg a2, if_neg a3, if_neg a4, q3, Bool.false_eq_true, if_false]; done)
          | (simp only [kstB, if_neg q1, if_neg a1, if_neg a2, if_neg a3, if_neg a4, q3, Bool.false_eq_true, if_false]; rfl)
          | (simp [kstB, q1, a1, a2, a3, a4]; done)) trivial trivial)
end
end Mine
theorem PySem.Challenge.cw_pq0740_01_holds : PySem.Challenge.rw_pq0740_01.Holds :=
  Mine.law_holds
