import PyProof.Rows.All
import Wide.All
import OpenK.AllK
import Wide.FinOn
import Lean
import PySem.Challenge.RW_sa0075_01
open PySem PySem.W PyProof.Rows PySem.Calls PySem.Spec
set_option Elab.async false
set_option maxRecDepth 100000
set_option linter.all false
namespace Mine

set_option maxRecDepth 100000 in
set_option maxHeartbeats 8000000 in
open_top hd for PySem.Challenge.rw_sa0075_01

section
def hold (_ : OpenLaw) (_ : Params → Frag) : Prop := True
theorem fill : hold PySem.Challenge.rw_sa0075_01 hd.heap_39 := by k_fill; exact trivial

abbrev Led := List (Addr × Obj)

/-- what a call of the def at f with the values vs comes to, whatever the caller: it ends, adds the objects tl, and P holds of them and of the value -/
def Claim (w : World) (mean : ExcName → Option Value) (mg mb : Str → Option Value) (f : Addr) (k u : Nat) (news : Led) (vs : List Value) (P : Led → Value → Prop) : Prop :=
  ∀ (dp un : Nat) (gd : Option (List Code)) (cn : Str) (cs : Scope) (a : Addr) (ccd : Value) (cl : List (Str × Addr)) (outer : List Env) (A₀ : Around) (base h₀ : Heap) (L : Addr) (m : Str → Option Value) (s : Shared) (Q E : Value → Shared → Prop),
    Below A₀ base outer h₀ → Fr h₀ L s.heap m → (hd.heap_39 w.params).In h₀ → News h₀ L s.heap news → Top hd.view_39 (looseW hd.view_39 []) mean mg mb h₀ → cs.kind = .function → dp + k < recursionLimit → un + u < cLine →
    (∀ (v : Value) (tl : Led) (h' : Heap) (tk' : Nat), Fr h₀ L h' m → News h₀ L h' (tl ++ news) → (∀ p ∈ tl, ∀ q ∈ news, q.1 < p.1) → P tl v → Q v { s with heap := h', toks := tk' }) →
    wpAny (model PySem.Challenge.rw_sa0075_01.row.prog w) (ktrTop dp un gd cn cs L a ccd cl outer) (call (.ref f) vs) Q E s

abbrev tupO (vs : List Value) (n : Nat) : Obj := { cls := .type "tuple", data := .seq vs.toArray n }


section
variable {w : World} {mean : ExcName → Option Value} {mg mb : Str → Option Value} {f : Addr} {k u : Nat} {news : Led} {vs : List Value}
  {dp un : Nat} {gd : Option (List Code)} {cn : Str} {cs : Scope} {a : Addr} {ccd : Value} {cl : List (Str × Addr)} {outer : List Env} {A₀ : Around} {base h₀ : Heap} {L : Addr} {m : Str → Option Value} {s : Shared} {Q E : Value → Shared → Prop}

def PInt (x : Int) (tl : Led) (v : Value) : Prop := tl = [] ∧ ∃ t, v = .int x t
def PBool (b : Bool) (tl : Led) (v : Value) : Prop := tl = [] ∧ v = .bool b
def PPair (x y : Int) (tl : Led) (v : Value) : Prop := ∃ a n t u, tl = [(a, tupO [.int x t, .int y u] n)] ∧ v = .ref a
def PInts (ns : List Int) (tl : Led) (v : Value) : Prop := ∃ a n ws, IntsAre ws ns ∧ tl = [(a, listOf ws.toArray n)] ∧ v = .ref a

theorem useInt {x : Int} (B : Below A₀ base outer h₀) (F : Fr h₀ L s.heap m) (X : (hd.heap_39 w.params).In h₀) (N : News h₀ L s.heap news) (T : Top hd.view_39 (looseW hd.view_39 []) mean mg mb h₀) (hk : cs.kind = .function) (hd' : dp + k < recursionLimit) (hu : un + u < cLine) (C : Claim w mean mg mb f k u news vs (PInt x)) 
    (ret : ∀ (t : Tok) (h' : Heap) (tk' : Nat), Fr h₀ L h' m → News h₀ L h' news → Q (.int x t) { s with heap := h', toks := tk' }) :
    wpAny (model PySem.Challenge.rw_sa0075_01.row.prog w) (ktrTop dp un gd cn cs L a ccd cl outer) (call (.ref f) vs) Q E s := by
  refine C _ _ _ _ _ _ _ _ _ _ _ _ _ _ _ _ _ B F X N T hk hd' hu fun v tl h' tk' F' N' _ p => ?_
  obtain ⟨rfl, t, rfl⟩ := p
  exact ret t h' tk' F' N'
theorem useBool {x : Bool} (B : Below A₀ base outer h₀) (F : Fr h₀ L s.heap m) (X : (hd.heap_39 w.params).In h₀) (N : News h₀ L s.heap news) (T : Top hd.view_39 (looseW hd.view_39 []) mean mg mb h₀) (hk : cs.kind = .function) (hd' : dp + k < recursionLimit) (hu : un + u < cLine) (C : Claim w mean mg mb f k u news vs (PBool x)) 
    (ret : ∀ (h' : Heap) (tk' : Nat), Fr h₀ L h' m → News h₀ L h' news → Q (.bool x) { s with heap := h', toks := tk' }) :
    wpAny (model PySem.Challenge.rw_sa0075_01.row.prog w) (ktrTop dp un gd cn cs L a ccd cl outer) (call (.ref f) vs) Q E s := by
  refine C _ _ _ _ _ _ _ _ _ _ _ _ _ _ _ _ _ B F X N T hk hd' hu fun v tl h' tk' F' N' _ p => ?_
  obtain ⟨rfl, rfl⟩ := p
  exact ret h' tk' F' N'
theorem usePair {x y : Int} (B : Below A₀ base outer h₀) (F : Fr h₀ L s.heap m) (X : (hd.heap_39 w.params).In h₀) (N : News h₀ L s.heap news) (T : Top hd.view_39 (looseW hd.view_39 []) mean mg mb h₀) (hk : cs.kind = .function) (hd' : dp + k < recursionLimit) (hu : un + u < cLine) (C : Claim w mean mg mb f k u news vs (PPair x y)) 
    (ret : ∀ (b : Addr) (n : Nat) (t t' : Tok) (h' : Heap) (tk' : Nat), Fr h₀ L h' m → News h₀ L h' ((b, tupO [.int x t, .int y t'] n) :: news) → AllLt b news → Q (.ref b) { s with heap := h', toks := tk' }) :
    wpAny (model PySem.Challenge.rw_sa0075_01.row.prog w) (ktrTop dp un gd cn cs L a ccd cl outer) (call (.ref f) vs) Q E s := by
  refine C _ _ _ _ _ _ _ _ _ _ _ _ _ _ _ _ _ B F X N T hk hd' hu fun v tl h' tk' F' N' l p => ?_
  obtain ⟨b, n, t, t', rfl, rfl⟩ := p
  exact ret b n t t' h' tk' F' N' (allLt_of fun q hq => l _ (.head _) q hq)
theorem useInts {ns : List Int} (B : Below A₀ base outer h₀) (F : Fr h₀ L s.heap m) (X : (hd.heap_39 w.params).In h₀) (N : News h₀ L s.heap news) (T : Top hd.view_39 (looseW hd.view_39 []) mean mg mb h₀) (hk : cs.kind = .function) (hd' : dp + k < recursionLimit) (hu : un + u < cLine) (C : Claim w mean mg mb f k u news vs (PInts ns)) 
    (ret : ∀ (b : Addr) (n : Nat) (ws : List Value) (h' : Heap) (tk' : Nat), IntsAre ws ns → Fr h₀ L h' m → News h₀ L h' ((b, listOf ws.toArray n) :: news) → AllLt b news → Q (.ref b) { s with heap := h', toks := tk' }) :
    wpAny (model PySem.Challenge.rw_sa0075_01.row.prog w) (ktrTop dp un gd cn cs L a ccd cl outer) (call (.ref f) vs) Q E s := by
  refine C _ _ _ _ _ _ _ _ _ _ _ _ _ _ _ _ _ B F X N T hk hd' hu fun v tl h' tk' F' N' l p => ?_
  obtain ⟨b, n, ws, hi, rfl, rfl⟩ := p
  exact ret b n ws h' tk' hi F' N' (allLt_of fun q hq => l _ (.head _) q hq)

abbrev Hret (news : Led) (h₀ : Heap) (L : Addr) (m : Str → Option Value) (s : Shared) (Q : Value → Shared → Prop) (P : Led → Value → Prop) : Prop :=
  ∀ (v : Value) (tl : Led) (h' : Heap) (tk' : Nat), Fr h₀ L h' m → News h₀ L h' (tl ++ news) → (∀ p ∈ tl, ∀ q ∈ news, q.1 < p.1) → P tl v → Q v { s with heap := h', toks := tk' }
theorem endInt {x y : Int} {t : Tok} {h' : Heap} {tk' : Nat} {news' : Led} (ret : Hret news h₀ L m s Q (PInt x)) (F : Fr h₀ L h' m) (N : News h₀ L h' news') (hs : ∀ p ∈ news, p ∈ news') (e : y = x) : Q (.int y t) { s with heap := h', toks := tk' } :=
  ret _ [] _ _ F (cb_drop N hs) (fun _ h => nomatch h) ⟨rfl, t, by rw [e]⟩
theorem endBool {x y : Bool} {h' : Heap} {tk' : Nat} {news' : Led} (ret : Hret news h₀ L m s Q (PBool x)) (F : Fr h₀ L h' m) (N : News h₀ L h' news') (hs : ∀ p ∈ news, p ∈ news') (e : y = x) : Q (.bool y) { s with heap := h', toks := tk' } :=
  ret _ [] _ _ F (cb_drop N hs) (fun _ h => nomatch h) ⟨rfl, by rw [e]⟩
theorem endPair {x y x' y' : Int} {b : Addr} {n : Nat} {t t' : Tok} {h' : Heap} {tk' : Nat} {news' : Led} (ret : Hret news h₀ L m s Q (PPair x y)) (F : Fr h₀ L h' m) (N : News h₀ L h' news') (hb : (b, tupO [.int x' t, .int y' t'] n) ∈ news') (hs : ∀ p ∈ news, p ∈ news') (l : AllLt b news) (e : x' = x) (e' : y' = y) :
    Q (.ref b) { s with heap := h', toks := tk' } := by
  subst e e'
  refine ret _ [_] _ _ F (cb_drop N fun p hp => ?_) (fun p hp q hq => ?_) ⟨b, n, t, t', rfl, rfl⟩
  · rcases List.mem_cons.mp hp with rfl | hp
    · exact hb
    · exact hs p hp
  · rw [List.mem_singleton.mp hp]; exact ktn_ltOf l q hq
theorem endInts {ns ns' : List Int} {ws : List Value} {b : Addr} {n : Nat} {h' : Heap} {tk' : Nat} {news' : Led} (ret : Hret news h₀ L m s Q (PInts ns)) (F : Fr h₀ L h' m) (N : News h₀ L h' news') (hb : (b, listOf ws.toArray n) ∈ news') (hs : ∀ p ∈ news, p ∈ news') (l : AllLt b news) (hi : IntsAre ws ns') (e : ns' = ns) :
    Q (.ref b) { s with heap := h', toks := tk' } := by
  subst e
  refine ret _ [_] _ _ F (cb_drop N fun p hp => ?_) (fun p hp q hq => ?_) ⟨b, n, ws, hi, rfl, rfl⟩
  · rcases List.mem_cons.mp hp with rfl | hp
    · exact hb
    · exact hs p hp
  · rw [List.mem_singleton.mp hp]; exact ktn_ltOf l q hq
end

theorem newsDup {h₀ h : Heap} {L : Addr} {news : Led} {e : Addr × Obj} (N : News h₀ L h news) (hx : e ∈ news) : News h₀ L h (e :: news) := fun p hp => by
  rcases List.mem_cons.mp hp with rfl | hp
  · exact N _ hx
  · exact N p hp

/-- the value is a list of these ints, a new one or one that stood -/
def PList (news : Led) (ns : List Int) (tl : Led) (v : Value) : Prop := ∃ a n ws, IntsAre ws ns ∧ v = .ref a ∧ (a, listOf ws.toArray n) ∈ tl ++ news
section
variable {w : World} {mean : ExcName → Option Value} {mg mb : Str → Option Value} {f : Addr} {k u : Nat} {news : Led} {vs : List Value}
  {dp un : Nat} {gd : Option (List Code)} {cn : Str} {cs : Scope} {a : Addr} {ccd : Value} {cl : List (Str × Addr)} {outer : List Env} {A₀ : Around} {base h₀ : Heap} {L : Addr} {m : Str → Option Value} {s : Shared} {Q E : Value → Shared → Prop}
theorem useList {ns : List Int} (B : Below A₀ base outer h₀) (F : Fr h₀ L s.heap m) (X : (hd.heap_39 w.params).In h₀) (N : News h₀ L s.heap news) (T : Top hd.view_39 (looseW hd.view_39 []) mean mg mb h₀) (hk : cs.kind = .function) (hd' : dp + k < recursionLimit) (hu : un + u < cLine) (C : Claim w mean mg mb f k u news vs (PList news ns))
    (ret : ∀ (b : Addr) (n : Nat) (ws : List Value) (h' : Heap) (tk' : Nat), IntsAre ws ns → Fr h₀ L h' m → News h₀ L h' ((b, listOf ws.toArray n) :: news) → ((b, listOf ws.toArray n) ∈ news ∨ AllLt b news) → Q (.ref b) { s with heap := h', toks := tk' }) :
    wpAny (model PySem.Challenge.rw_sa0075_01.row.prog w) (ktrTop dp un gd cn cs L a ccd cl outer) (call (.ref f) vs) Q E s := by
  refine C _ _ _ _ _ _ _ _ _ _ _ _ _ _ _ _ _ B F X N T hk hd' hu fun v tl h' tk' F' N' l p => ?_
  obtain ⟨b, n, ws, hi, rfl, hb⟩ := p
  refine ret b n ws h' tk' hi F' (fun p hp => ?_) ((List.mem_append.mp hb).symm.imp id fun h => allLt_of fun q hq => l _ h q hq)
  rcases List.mem_cons.mp hp with rfl | hp
  · exact N' _ hb
  · exact N' p (List.mem_append.mpr (.inr hp))
theorem endListOld {ns ns' : List Int} {ws : List Value} {b : Addr} {n : Nat} {h' : Heap} {tk' : Nat} {news' : Led} (ret : Hret news h₀ L m s Q (PList news ns)) (F : Fr h₀ L h' m) (N : News h₀ L h' news') (hs : ∀ p ∈ news, p ∈ news') (hb : (b, listOf ws.toArray n) ∈ news) (hi : IntsAre ws ns') (e : ns' = ns) :
    Q (.ref b) { s with heap := h', toks := tk' } :=
  ret _ [] _ _ F (cb_drop N hs) (fun _ h => nomatch h) ⟨b, n, ws, e ▸ hi, rfl, hb⟩
theorem endListNew {ns ns' : List Int} {ws : List Value} {b : Addr} {n : Nat} {h' : Heap} {tk' : Nat} {news' : Led} (ret : Hret news h₀ L m s Q (PList news ns)) (F : Fr h₀ L h' m) (N : News h₀ L h' news') (hb : (b, listOf ws.toArray n) ∈ news') (hs : ∀ p ∈ news, p ∈ news') (l : AllLt b news) (hi : IntsAre ws ns') (e : ns' = ns) :
    Q (.ref b) { s with heap := h', toks := tk' } := by
  subst e
  refine ret _ [_] _ _ F (cb_drop N fun p hp => ?_) (fun p hp q hq => ?_) ⟨b, n, ws, hi, rfl, .head _⟩
  · rcases List.mem_cons.mp hp with rfl | hp
    · exact hb
    · exact hs p hp
  · rw [List.mem_singleton.mp hp]; exact ktn_ltOf l q hq
theorem endListP {ns ns' : List Int} {ws : List Value} {b : Addr} {n : Nat} {h' : Heap} {tk' : Nat} {Lg news' : Led} (ret : Hret news h₀ L m s Q (PList news ns)) (F : Fr h₀ L h' m) (N : News h₀ L h' news') (hb' : (b, listOf ws.toArray n) ∈ news') (hs : ∀ p ∈ news, p ∈ news')
    (hb : (b, listOf ws.toArray n) ∈ Lg ∨ AllLt b Lg) (hL : ∀ e ∈ Lg, e ∈ news ∨ AllLt e.1 news) (hn : ∀ e ∈ news, e ∈ Lg) (hi : IntsAre ws ns') (e : ns' = ns) :
    Q (.ref b) { s with heap := h', toks := tk' } := by
  have key : (b, listOf ws.toArray n) ∈ news ∨ AllLt b news := by
    rcases hb with h | h
    · exact hL _ h
    · exact .inr (allLt_of fun q hq => ktn_ltOf h q (hn q hq))
  rcases key with h | h
  · exact endListOld ret F N hs h hi e
  · exact endListNew ret F N hb' hs h hi e
end
end
local macro_rules | `(tactic| k_mem) => `(tactic| first | exact List.Mem.head _ | (refine List.mem_cons_of_mem _ ?_; k_mem))
local macro_rules | `(tactic| walk_at "call ref") => `(tactic| k_extra "mycall")

section
def gcdZ (a b : Int) : Int := (Nat.gcd a.natAbs b.natAbs : Nat)

theorem gcd_start (a b : Int) : 0 ≤ (if a < 0 then -a else a) ∧ 0 ≤ (if b < 0 then -b else b) ∧ gcdZ (if a < 0 then -a else a) (if b < 0 then -b else b) = gcdZ a b := by
  have h : ∀ x : Int, (if x < 0 then -x else x).natAbs = x.natAbs := fun x => by split <;> omega
  refine ⟨by split <;> omega, by split <;> omega, ?_⟩
  unfold gcdZ; rw [h, h]
theorem gcd_turn {x y a b : Int} (h1 : 0 ≤ x) (h2 : 0 ≤ y) (h3 : gcdZ x y = gcdZ a b) (hy : y ≠ 0) : 0 ≤ y ∧ 0 ≤ x.fmod y ∧ gcdZ y (x.fmod y) = gcdZ a b := by
  have e : x.fmod y = x % y := Int.fmod_eq_emod_of_nonneg x h2
  refine ⟨h2, by rw [e]; exact Int.emod_nonneg _ hy, ?_⟩
  rw [← h3, e]
  unfold gcdZ
  rw [Int.natAbs_emod_of_nonneg h1, Nat.gcd_comm, ← Nat.gcd_rec, Nat.gcd_comm]
theorem gcd_less {x y : Int} (h2 : 0 ≤ y) (hy : y ≠ 0) : (x.fmod y).natAbs < y.natAbs := by
  have e : x.fmod y = x % y := Int.fmod_eq_emod_of_nonneg x h2
  have := Int.emod_lt_of_pos x (show 0 < y by omega)
  have := Int.emod_nonneg x hy
  omega
theorem gcd_end {x y a b : Int} (h1 : 0 ≤ x) (h3 : gcdZ x y = gcdZ a b) (hy : y = 0) : x = gcdZ a b := by
  rw [← h3, hy]; unfold gcdZ; simp; omega

set_option maxHeartbeats 4000000 in
theorem gcd_c (w : World) (mean : ExcName → Option Value) (mg mb : Str → Option Value) (news : Led) (a b : Int) (ta tb : Tok) :
    Claim w mean mg mb 41 2 16 news [.int a ta, .int b tb] (PInt (gcdZ a b)) := by
  unfold Claim
  intro dp un gd cn cs a' ccd cl outer A₀ base h₀ L m s Q E B F X N T hk hd' hu hret
  refine wpAny_call ?_
  k_with_none
  w_top off
  k_with "exec While Compare cons nil" => k_while (fun _ x y => 0 ≤ x ∧ 0 ≤ y ∧ gcdZ x y = gcdZ a b) (fun _ _ y => y.natAbs) "a" "b"
  k_with "state" => first | exact gcd_start _ _ | exact gcd_turn (by assumption) (by assumption) (by assumption) (by assumption)
  k_with "measure" => exact gcd_less (by assumption) (by assumption)
  k_dflt ktr_enter
  k_steps
  all_goals exact endInt hret (by k_asm) (by assumption) (by kcj_all) (gcd_end (by assumption) (by assumption) (by assumption))
end

section
def ratG (top bottom : Int) : Int := if 0 < bottom then gcdZ top bottom else 0 - gcdZ top bottom
theorem ratG_pos {a b : Int} (h : 0 < b) : ratG a b = gcdZ a b := if_pos h
theorem ratG_neg {a b : Int} (h : ¬ 0 < b) : ratG a b = 0 - gcdZ a b := if_neg h
theorem gcdZ_pos {a b : Int} (h : b ≠ 0) : 0 < gcdZ a b := by
  unfold gcdZ
  exact Int.ofNat_lt.mpr (Nat.gcd_pos_of_pos_right _ (by omega))

theorem gcdZ_le {a b : Int} (h : b ≠ 0) : gcdZ a b ≤ b.natAbs := by
  unfold gcdZ
  exact Int.ofNat_le.mpr (Nat.le_of_dvd (by omega) (Nat.gcd_dvd_right _ _))


set_option maxHeartbeats 4000000 in
theorem rat_c (w : World) (mean : ExcName → Option Value) (mg mb : Str → Option Value) (news : Led) (a b : Int) (ta tb : Tok) (hb : b ≠ 0) (hB : b.natAbs < 1073741824) :
    Claim w mean mg mb 48 3 24 news [.int a ta, .int b tb] (PPair (a.fdiv (ratG a b)) (b.fdiv (ratG a b))) := by
  unfold Claim
  intro dp un gd cn cs a' ccd cl outer A₀ base h₀ L m s Q E B F X N T hk hd' hu hret
  have hg := gcdZ_pos (a := a) hb
  have hg2 := gcdZ_le (a := a) hb
  refine wpAny_call ?_
  k_with_none
  w_top off
  k_with "mycall" => (k_here; (with_reducible show wpAny _ _ (call (Value.ref 41) _) _ _ _); k_dflt (refine useInt (by k_asm) (by k_asm) (by k_asm) (by k_asm) (by k_asm) (by (first | exact rfl | assumption)) (by ktr_room) (by ktr_units) (gcd_c _ _ _ _ _ _ _ _ _) ?_); intro t9 h9 tk9 F9 N9; (try dsimp only); (try k_fold))
  k_with "exec Raise some none" => (exfalso; omega)
  k_dflt ktr_enter
  k_steps
  all_goals exact endPair hret (by k_asm) (by assumption) (by k_mem) (by kcj_all) (by first | assumption | exact allLt_of (by assumption)) (by first | rw [ratG_pos (by assumption)] | rw [ratG_neg (by assumption)]) (by first | rw [ratG_pos (by assumption)] | rw [ratG_neg (by assumption)])
end

section
set_option maxHeartbeats 4000000 in
theorem rsub_c (w : World) (mean : ExcName → Option Value) (mg mb : Str → Option Value) (news : Led) {x y : Addr} {n n' : Nat} {t u t' u' : Tok} {a b c d : Int}
    (hx : (x, tupO [.int a t, .int b u] n) ∈ news) (hy : (y, tupO [.int c t', .int d u'] n') ∈ news)
    (h0 : b * d ≠ 0) (hB : (b * d).natAbs < 1073741824) (ha : a.natAbs < 1073741824) (hb : b.natAbs < 1073741824) (hc : c.natAbs < 1073741824) :
    Claim w mean mg mb 55 4 32 news [.ref x, .ref y] (PPair ((a * d - c * b).fdiv (ratG (a * d - c * b) (b * d))) ((b * d).fdiv (ratG (a * d - c * b) (b * d)))) := by
  unfold Claim
  intro dp un gd cn cs a' ccd cl outer A₀ base h₀ L m s Q E B F X N T hk hd' hu hret
  refine wpAny_call ?_
  k_with_none
  w_top off
  k_with "mycall" => (k_here; (with_reducible show wpAny _ _ (call (Value.ref 41) _) _ _ _); k_dflt (refine useInt (by k_asm) (by k_asm) (by k_asm) (by k_asm) (by k_asm) (by (first | exact rfl | assumption)) (by ktr_room) (by ktr_units) (gcd_c _ _ _ _ _ _ _ _ _) ?_); intro t9 h9 tk9 F9 N9; (try dsimp only); (try k_fold))
  k_with "mycall" => (k_here; (with_reducible show wpAny _ _ (call (Value.ref 48) _) _ _ _); k_dflt (refine usePair (by k_asm) (by k_asm) (by k_asm) (by k_asm) (by k_asm) (by (first | exact rfl | assumption)) (by ktr_room) (by ktr_units) (rat_c _ _ _ _ _ _ _ _ _ (by (first | assumption | omega | k_extra "side")) (by (first | assumption | omega | k_extra "side"))) ?_); intro b9 n9 t9 u9 h9 tk9 F9 N9 l9; (try simp only [AllLt, and_true] at l9); (try dsimp only); (try k_fold))
  k_with "rat0" => exact h0
  k_with "rat1" => exact hB
  k_dflt ktr_enter
  k_steps
  all_goals exact endPair hret (by k_asm) (by assumption) (by k_mem) (by kcj_all) (by first | assumption | exact allLt_of (by assumption)) rfl rfl

set_option maxHeartbeats 4000000 in
theorem rneg_c (w : World) (mean : ExcName → Option Value) (mg mb : Str → Option Value) (news : Led) {x : Addr} {n : Nat} {t u : Tok} {a b : Int}
    (hx : (x, tupO [.int a t, .int b u] n) ∈ news) :
    Claim w mean mg mb 62 2 16 news [.ref x] (PPair (0 - a) b) := by
  unfold Claim
  intro dp un gd cn cs a' ccd cl outer A₀ base h₀ L m s Q E B F X N T hk hd' hu hret
  refine wpAny_call ?_
  k_with_none
  w_top off
  k_with "mycall" => (k_here; (with_reducible show wpAny _ _ (call (Value.ref 41) _) _ _ _); k_dflt (refine useInt (by k_asm) (by k_asm) (by k_asm) (by k_asm) (by k_asm) (by (first | exact rfl | assumption)) (by ktr_room) (by ktr_units) (gcd_c _ _ _ _ _ _ _ _ _) ?_); intro t9 h9 tk9 F9 N9; (try dsimp only); (try k_fold))
  k_with "mycall" => (k_here; (with_reducible show wpAny _ _ (call (Value.ref 48) _) _ _ _); k_dflt (refine usePair (by k_asm) (by k_asm) (by k_asm) (by k_asm) (by k_asm) (by (first | exact rfl | assumption)) (by ktr_room) (by ktr_units) (rat_c _ _ _ _ _ _ _ _ _ (by (first | assumption | omega | k_extra "side")) (by (first | assumption | omega | k_extra "side"))) ?_); intro b9 n9 t9 u9 h9 tk9 F9 N9 l9; (try simp only [AllLt, and_true] at l9); (try dsimp only); (try k_fold))
  k_dflt ktr_enter
  k_steps
  all_goals exact endPair hret (by k_asm) (by assumption) (by k_mem) (by kcj_all) (by first | assumption | exact allLt_of (by assumption)) rfl rfl

set_option maxHeartbeats 4000000 in
theorem rinv_c (w : World) (mean : ExcName → Option Value) (mg mb : Str → Option Value) (news : Led) {x : Addr} {n : Nat} {t u : Tok} {a b : Int}
    (hx : (x, tupO [.int a t, .int b u] n) ∈ news) (h0 : a ≠ 0) (hB : a.natAbs < 1073741824) :
    Claim w mean mg mb 69 4 32 news [.ref x] (PPair (b.fdiv (ratG b a)) (a.fdiv (ratG b a))) := by
  unfold Claim
  intro dp un gd cn cs a' ccd cl outer A₀ base h₀ L m s Q E B F X N T hk hd' hu hret
  refine wpAny_call ?_
  k_with_none
  w_top off
  k_with "mycall" => (k_here; (with_reducible show wpAny _ _ (call (Value.ref 41) _) _ _ _); k_dflt (refine useInt (by k_asm) (by k_asm) (by k_asm) (by k_asm) (by k_asm) (by (first | exact rfl | assumption)) (by ktr_room) (by ktr_units) (gcd_c _ _ _ _ _ _ _ _ _) ?_); intro t9 h9 tk9 F9 N9; (try dsimp only); (try k_fold))
  k_with "mycall" => (k_here; (with_reducible show wpAny _ _ (call (Value.ref 48) _) _ _ _); k_dflt (refine usePair (by k_asm) (by k_asm) (by k_asm) (by k_asm) (by k_asm) (by (first | exact rfl | assumption)) (by ktr_room) (by ktr_units) (rat_c _ _ _ _ _ _ _ _ _ (by (first | assumption | omega | k_extra "side")) (by (first | assumption | omega | k_extra "side"))) ?_); intro b9 n9 t9 u9 h9 tk9 F9 N9 l9; (try simp only [AllLt, and_true] at l9); (try dsimp only); (try k_fold))
  k_with "rat0" => exact h0
  k_with "rat1" => exact hB
  k_dflt ktr_enter
  k_steps
  all_goals exact endPair hret (by k_asm) (by assumption) (by k_mem) (by kcj_all) (by first | assumption | exact allLt_of (by assumption)) rfl rfl

theorem cmp_eq (X : Int) : b2i (decide (0 < X)) - b2i (decide (X < 0)) = if 0 < X then 1 else if X < 0 then -1 else 0 := by
  by_cases h1 : 0 < X
  · rw [decide_eq_true h1, decide_eq_false (show ¬ X < 0 by omega), if_pos h1]; rfl
  · rw [decide_eq_false h1, if_neg h1]
    by_cases h2 : X < 0
    · rw [decide_eq_true h2, if_pos h2]; rfl
    · rw [decide_eq_false h2, if_neg h2]; rfl
def cmpZ (a b c d : Int) : Int := if 0 < a * d - c * b then 1 else if a * d - c * b < 0 then -1 else 0
set_option maxHeartbeats 4000000 in
theorem rcompare_c (w : World) (mean : ExcName → Option Value) (mg mb : Str → Option Value) (news : Led) {x y : Addr} {n n' : Nat} {t u t' u' : Tok} {a b c d : Int}
    (hx : (x, tupO [.int a t, .int b u] n) ∈ news) (hy : (y, tupO [.int c t', .int d u'] n') ∈ news)
    (ha : a.natAbs < 1073741824) (hb : b.natAbs < 1073741824) :
    Claim w mean mg mb 76 2 16 news [.ref x, .ref y] (PInt (cmpZ a b c d)) := by
  unfold Claim
  intro dp un gd cn cs a' ccd cl outer A₀ base h₀ L m s Q E B F X N T hk hd' hu hret
  refine wpAny_call ?_
  k_with_none
  w_top off
  k_with "mycall" => (k_here; (with_reducible show wpAny _ _ (call (Value.ref 41) _) _ _ _); k_dflt (refine useInt (by k_asm) (by k_asm) (by k_asm) (by k_asm) (by k_asm) (by (first | exact rfl | assumption)) (by ktr_room) (by ktr_units) (gcd_c _ _ _ _ _ _ _ _ _) ?_); intro t9 h9 tk9 F9 N9; (try dsimp only); (try k_fold))
  k_with "mycall" => (k_here; (with_reducible show wpAny _ _ (call (Value.ref 48) _) _ _ _); k_dflt (refine usePair (by k_asm) (by k_asm) (by k_asm) (by k_asm) (by k_asm) (by (first | exact rfl | assumption)) (by ktr_room) (by ktr_units) (rat_c _ _ _ _ _ _ _ _ _ (by (first | assumption | omega | k_extra "side")) (by (first | assumption | omega | k_extra "side"))) ?_); intro b9 n9 t9 u9 h9 tk9 F9 N9 l9; (try simp only [AllLt, and_true] at l9); (try dsimp only); (try k_fold))
  k_dflt ktr_enter
  k_steps
  all_goals exact endInt hret (by k_asm) (by assumption) (by kcj_all) (cmp_eq _)

set_option maxHeartbeats 4000000 in
theorem rfloor_c (w : World) (mean : ExcName → Option Value) (mg mb : Str → Option Value) (news : Led) {x : Addr} {n : Nat} {t u : Tok} {a b : Int}
    (hx : (x, tupO [.int a t, .int b u] n) ∈ news) (h0 : b ≠ 0) (hB : b.natAbs < 1073741824) :
    Claim w mean mg mb 83 2 16 news [.ref x] (PInt (a.fdiv b)) := by
  unfold Claim
  intro dp un gd cn cs a' ccd cl outer A₀ base h₀ L m s Q E B F X N T hk hd' hu hret
  refine wpAny_call ?_
  k_with_none
  w_top off
  k_with "mycall" => (k_here; (with_reducible show wpAny _ _ (call (Value.ref 41) _) _ _ _); k_dflt (refine useInt (by k_asm) (by k_asm) (by k_asm) (by k_asm) (by k_asm) (by (first | exact rfl | assumption)) (by ktr_room) (by ktr_units) (gcd_c _ _ _ _ _ _ _ _ _) ?_); intro t9 h9 tk9 F9 N9; (try dsimp only); (try k_fold))
  k_with "mycall" => (k_here; (with_reducible show wpAny _ _ (call (Value.ref 48) _) _ _ _); k_dflt (refine usePair (by k_asm) (by k_asm) (by k_asm) (by k_asm) (by k_asm) (by (first | exact rfl | assumption)) (by ktr_room) (by ktr_units) (rat_c _ _ _ _ _ _ _ _ _ (by (first | assumption | omega | k_extra "side")) (by (first | assumption | omega | k_extra "side"))) ?_); intro b9 n9 t9 u9 h9 tk9 F9 N9 l9; (try simp only [AllLt, and_true] at l9); (try dsimp only); (try k_fold))
  k_dflt ktr_enter
  k_steps
  all_goals exact endInt hret (by k_asm) (by assumption) (by kcj_all) rfl
end

section
def small (x : Int) : Bool := decide (x.natAbs < 1073741824)
theorem small_iff {x : Int} : small x = true ↔ x.natAbs < 1073741824 := decide_eq_true_iff

/-- the row, reckoned as the text does it; none where a size or a bottom is out of the walk's bounds -/
def frow? : Nat → Int → Int → Option (List Int)
  | 0, _, _ => none
  | k + 1, p, q =>
    let wh := p.fdiv q
    let t := p * 1 - wh * q
    let g := ratG t (q * 1)
    if (small p && small q && small wh && q != 0) = true then
      if t.fdiv g = 0 then some [wh]
      else if small (t.fdiv g) = true then
        let x := t.fdiv g
        let y := (q * 1).fdiv g
        (frow? k (y.fdiv (ratG y x)) (x.fdiv (ratG y x))).map (wh :: ·)
      else none
    else none

theorem frow_step {k : Nat} {p q : Int} {ns : List Int} (h : frow? k p q = some ns) : ∃ k', k = k' + 1 ∧ p.natAbs < 1073741824 ∧ q.natAbs < 1073741824 ∧ (p.fdiv q).natAbs < 1073741824 ∧ q ≠ 0 ∧
    ((p * 1 - p.fdiv q * q).fdiv (ratG (p * 1 - p.fdiv q * q) (q * 1)) = 0 → ns = [p.fdiv q]) ∧
    ((p * 1 - p.fdiv q * q).fdiv (ratG (p * 1 - p.fdiv q * q) (q * 1)) ≠ 0 → ((p * 1 - p.fdiv q * q).fdiv (ratG (p * 1 - p.fdiv q * q) (q * 1))).natAbs < 1073741824 ∧
      ∃ ms, ns = p.fdiv q :: ms ∧ frow? k' (((q * 1).fdiv (ratG (p * 1 - p.fdiv q * q) (q * 1))).fdiv (ratG ((q * 1).fdiv (ratG (p * 1 - p.fdiv q * q) (q * 1))) ((p * 1 - p.fdiv q * q).fdiv (ratG (p * 1 - p.fdiv q * q) (q * 1)))))
        (((p * 1 - p.fdiv q * q).fdiv (ratG (p * 1 - p.fdiv q * q) (q * 1))).fdiv (ratG ((q * 1).fdiv (ratG (p * 1 - p.fdiv q * q) (q * 1))) ((p * 1 - p.fdiv q * q).fdiv (ratG (p * 1 - p.fdiv q * q) (q * 1))))) = some ms) := by
  cases k with
  | zero => exact absurd h (by simp [frow?])
  | succ k =>
    unfold frow? at h
    dsimp only at h
    split at h
    · rename_i hc
      simp only [Bool.and_eq_true, small_iff, bne_iff_ne, ne_eq] at hc
      obtain ⟨⟨⟨h1, h2⟩, h3⟩, h4⟩ := hc
      refine ⟨k, rfl, h1, h2, h3, h4, fun e => ?_, fun e => ?_⟩
      · rw [if_pos e] at h
        exact (Option.some.inj h).symm
      · rw [if_neg e] at h
        split at h
        · rename_i hs
          obtain ⟨ms, h5, h6⟩ := Option.map_eq_some_iff.mp h
          exact ⟨small_iff.mp hs, ms, h6.symm, h5⟩
        · cases h
    · cases h

structure FS where
  x : Addr
  nn : Nat
  t : Tok
  u : Tok
  p : Int
  q : Int
  ws : List Value
  nl : Nat
  pre : List Int
  post : List Int
  k : Nat

abbrev FrLed (l : Addr) (news : Led) (c : FS) : Led := (c.x, tupO [.int c.p c.t, .int c.q c.u] c.nn) :: (l, listOf c.ws.toArray c.nl) :: news
abbrev FrPs (c : FS) : List (Str × Value) := [(Str.ofString "r", .ref c.x)]
def FrP (l : Addr) (ns : List Int) (c : FS) : Prop := IntsAre c.ws c.pre ∧ c.x ≠ l ∧ frow? c.k c.p c.q = some c.post ∧ ns = c.pre ++ c.post ∧ c.pre.length + c.k ≤ 1000
theorem fr_loop {prog : Program} {w : World} {A : Around} {E : Value → Shared → Prop} {Q : Flow → Shared → Prop} {s : Shared} {env : Env} {h₀ : Heap} {L : Addr} {test : PySem.Expr} {body : List Stmt} {pos : Pos} {m₀ : Str → Option Value} {l x : Addr} {nn nl k : Nat} {t u : Tok} {p q : Int} {news : Led} {ns : List Int}
    (F : Fr h₀ L s.heap m₀) (N : News h₀ L s.heap ((l, listOf #[] nl) :: news)) (hx : (x, tupO [.int p t, .int q u] nn) ∈ news) (hl : ∀ p ∈ news, p.1 < l) (hm : m₀ (Str.ofString "r") = some (.ref x)) (hk : frow? k p q = some ns) (hk1 : k ≤ 1000)
    (turn : ∀ (x : Addr) (nn : Nat) (t u : Tok) (p q : Int) (ws : List Value) (nl : Nat) (pre post : List Int) (k : Nat) (v : Str → Option Value) (h : Heap) (tk : Nat), IntsAre ws pre → x ≠ l → frow? k p q = some post → ns = pre ++ post → pre.length + k ≤ 1000 →
      Fr h₀ L h (fun z => if z = Str.ofString "r" then some (.ref x) else if [Str.ofString "whole"].contains z then v z else m₀ z) → News h₀ L h ((x, tupO [.int p t, .int q u] nn) :: (l, listOf ws.toArray nl) :: news) →
      wpAny (model prog w) A (isTrue test env (eval test env)) (fun b s₂ =>
        if b = true then wpAny (model prog w) A (execs body env) (KswPost h₀ L s (FrLed l news) FrPs (fun _ => True) [Str.ofString "whole"] m₀ (FrP l ns) (fun c => c.k) Q ⟨x, nn, t, u, p, q, ws, nl, pre, post, k⟩) E s₂ else Q .next s₂) E { s with heap := h, toks := tk })
    (hE : PassesOwn (model prog w) A env E := by passes_own) :
    wpAny (model prog w) A (exec (.While test body [] pos) env) Q E s := by
  refine ksw_while (FrLed l news) FrPs (fun _ => True) [Str.ofString "whole"] (FrP l ns) (fun c => c.k) ⟨x, nn, t, u, p, q, [], nl, [], ns, k⟩ F (fun p hp => ?_) trivial ?_ ?_ ?_ hE
  · rcases List.mem_cons.mp hp with rfl | hp
    · exact N _ (.tail _ hx)
    · exact N _ hp
  · intro y hy
    rw [List.mem_singleton.mp hy]
    exact hm
  · exact ⟨.nil, Nat.ne_of_lt (hl _ hx), hk, rfl, by simpa using hk1⟩
  · rintro ⟨x, nn, t, u, p, q, ws, nl, pre, post, k⟩ v h tk _ ⟨h1, h2, h3, h4, h5⟩ F' N'
    exact turn x nn t u p q ws nl pre post k v h tk h1 h2 h3 h4 h5 F' N'

theorem fr_end {h₀ h' : Heap} {L : Addr} {s : Shared} {l : Addr} {news news' : Led} {ns : List Int} {m₀ m' : Str → Option Value} {c : FS} {tk : Nat} {x : Addr} {nn : Nat} {t u : Tok} {p q : Int} {ws : List Value} {nl : Nat} {n X : Int} {k' : Nat} {T : Prop}
    (F : Fr h₀ L h' m') (N : News h₀ L h' news') (hr : m' (Str.ofString "r") = some (.ref x)) (h1 : IntsAre ws (c.pre ++ [n])) (hz : X ≠ 0 → T ∧ ∃ ms, c.post = n :: ms ∧ frow? k' p q = some ms) (hn : ∀ e ∈ (x, tupO [.int p t, .int q u] nn) :: (l, listOf ws.toArray nl) :: news, e ∈ news')
    (hm : ∀ z, (∀ e ∈ [(Str.ofString "r", Value.ref x)], z ≠ e.1) → [Str.ofString "whole"].contains z = false → m' z = m₀ z)
    (h2 : x ≠ l) (hX : X ≠ 0) (h4 : ns = c.pre ++ c.post) (h5 : k' < c.k) (h6 : c.pre.length + 1 + k' ≤ 1000) :
    KswEnd h₀ L s (FrLed l news) FrPs (fun _ => True) [Str.ofString "whole"] m₀ (FrP l ns) (fun c => c.k) c { s with heap := h', toks := tk } := by
  obtain ⟨_, ms, e1, e2⟩ := hz hX
  exact ksw_end ⟨x, nn, t, u, p, q, ws, nl, c.pre ++ [n], ms, k'⟩ F N hn trivial (fun y hy => by rw [List.mem_singleton.mp hy]; exact hr) hm ⟨h1, h2, e2, by rw [h4, e1, List.append_assoc]; rfl, by rw [List.length_append]; exact h6⟩ h5
theorem fr_last {X n : Int} {ns pre post : List Int} (h : ns = pre ++ post) (hz : X = 0 → post = [n]) (hX : X = 0) : pre ++ [n] = ns := by rw [h, hz hX]
theorem intsAre_snoc {n : Int} {t : Tok} : ∀ {ws : List Value} {ns : List Int}, IntsAre ws ns → IntsAre (ws ++ [.int n t]) (ns ++ [n])
  | _, _, .nil => .cons n t .nil
  | _, _, .cons m u h => .cons m u (intsAre_snoc h)

theorem allNe {d : Addr} {l : Led} (h : ∀ p ∈ l, p.1 < d) : ∀ p ∈ l, p.1 ≠ d := fun p hp => Nat.ne_of_lt (h p hp)
local macro_rules | `(tactic| k_all) => `(tactic| exact allNe (by assumption))
local macro_rules | `(tactic| walk_at "exec While") => `(tactic| (k_here; (with_reducible rename Fr _ _ _ _ => lF'); (with_reducible rename News _ _ _ _ => lN'); k_dflt (refine fr_loop lF' lN' (by assumption) (by assumption) rfl (by assumption) (by assumption) ?_ ?_); intro x' n' t' u' p' q' ws' nl' pre' post' k' v' h' tk' hws' hxl' hfr' hns' hln' F' N'; (obtain ⟨k2', hk2', hp', hq', hw', hq0', hz', hnz'⟩ := frow_step hfr')))

local macro_rules | `(tactic| size_fits) => `(tactic| (rw [List.size_toArray, IntsAre.length (by assumption), sizeLine_eq]; omega))
set_option maxHeartbeats 4000000 in
theorem frow_c (w : World) (mean : ExcName → Option Value) (mg mb : Str → Option Value) (news : Led) {x : Addr} {n : Nat} {t u : Tok} {a b : Int}
    (hx : (x, tupO [.int a t, .int b u] n) ∈ news) {k : Nat} {ns : List Int} (hk0 : frow? k a b = some ns) (hk1 : k ≤ 1000) :
    Claim w mean mg mb 90 8 64 news [.ref x] (PInts ns) := by
  unfold Claim
  intro dp un gd cn cs a' ccd cl outer A₀ base h₀ L m s Q E B F X N T hk hd' hu hret
  refine wpAny_call ?_
  k_with_none
  w_top off
  k_with "mycall" => (k_here; (with_reducible show wpAny _ _ (call (Value.ref 41) _) _ _ _); k_dflt (refine useInt (by k_asm) (by k_asm) (by k_asm) (by k_asm) (by k_asm) (by (first | exact rfl | assumption)) (by ktr_room) (by ktr_units) (gcd_c _ _ _ _ _ _ _ _ _) ?_); intro t9 h9 tk9 F9 N9; (try dsimp only); (try k_fold))
  k_with "mycall" => (k_here; (with_reducible show wpAny _ _ (call (Value.ref 48) _) _ _ _); k_dflt (refine usePair (by k_asm) (by k_asm) (by k_asm) (by k_asm) (by k_asm) (by (first | exact rfl | assumption)) (by ktr_room) (by ktr_units) (rat_c _ _ _ _ _ _ _ _ _ (by (first | assumption | omega | k_extra "side")) (by (first | assumption | omega | k_extra "side"))) ?_); intro b9 n9 t9 u9 h9 tk9 F9 N9 l9; (try simp only [AllLt, and_true] at l9); (try dsimp only); (try k_fold))
  k_with "mycall" => (k_here; (with_reducible show wpAny _ _ (call (Value.ref 55) _) _ _ _); k_dflt (refine usePair (by k_asm) (by k_asm) (by k_asm) (by k_asm) (by k_asm) (by (first | exact rfl | assumption)) (by ktr_room) (by ktr_units) (rsub_c _ _ _ _ _ (by k_mem) (by k_mem) (by (first | assumption | omega | k_extra "side")) (by (first | assumption | omega | k_extra "side")) (by (first | assumption | omega | k_extra "side")) (by (first | assumption | omega | k_extra "side")) (by (first | assumption | omega | k_extra "side"))) ?_); intro b9 n9 t9 u9 h9 tk9 F9 N9 l9; (try simp only [AllLt, and_true] at l9); (try dsimp only); (try k_fold))
  k_with "mycall" => (k_here; (with_reducible show wpAny _ _ (call (Value.ref 62) _) _ _ _); k_dflt (refine usePair (by k_asm) (by k_asm) (by k_asm) (by k_asm) (by k_asm) (by (first | exact rfl | assumption)) (by ktr_room) (by ktr_units) (rneg_c _ _ _ _ _ (by k_mem)) ?_); intro b9 n9 t9 u9 h9 tk9 F9 N9 l9; (try simp only [AllLt, and_true] at l9); (try dsimp only); (try k_fold))
  k_with "mycall" => (k_here; (with_reducible show wpAny _ _ (call (Value.ref 69) _) _ _ _); k_dflt (refine usePair (by k_asm) (by k_asm) (by k_asm) (by k_asm) (by k_asm) (by (first | exact rfl | assumption)) (by ktr_room) (by ktr_units) (rinv_c _ _ _ _ _ (by k_mem) (by (first | assumption | omega | k_extra "side")) (by (first | assumption | omega | k_extra "side"))) ?_); intro b9 n9 t9 u9 h9 tk9 F9 N9 l9; (try simp only [AllLt, and_true] at l9); (try dsimp only); (try k_fold))
  k_with "mycall" => (k_here; (with_reducible show wpAny _ _ (call (Value.ref 76) _) _ _ _); k_dflt (refine useInt (by k_asm) (by k_asm) (by k_asm) (by k_asm) (by k_asm) (by (first | exact rfl | assumption)) (by ktr_room) (by ktr_units) (rcompare_c _ _ _ _ _ (by k_mem) (by k_mem) (by (first | assumption | omega | k_extra "side")) (by (first | assumption | omega | k_extra "side"))) ?_); intro t9 h9 tk9 F9 N9; (try dsimp only); (try k_fold))
  k_with "mycall" => (k_here; (with_reducible show wpAny _ _ (call (Value.ref 83) _) _ _ _); k_dflt (refine useInt (by k_asm) (by k_asm) (by k_asm) (by k_asm) (by k_asm) (by (first | exact rfl | assumption)) (by ktr_room) (by ktr_units) (rfloor_c _ _ _ _ _ (by k_mem) (by (first | assumption | omega | k_extra "side")) (by (first | assumption | omega | k_extra "side"))) ?_); intro t9 h9 tk9 F9 N9; (try dsimp only); (try k_fold))
  k_dflt ktr_enter
  k_steps
  · exact endInts hret (by k_asm) (by assumption) (by k_mem) (by kcj_all) (allLt_of (by assumption)) (intsAre_snoc (by assumption)) (fr_last (by assumption) (by assumption) (by assumption))
  · exact fr_end (by assumption) (by assumption) (by exact rfl) (intsAre_snoc (by assumption)) (by assumption) (by kcj_all) (by ksw_same) (by k_ne) (by assumption) (by assumption) (by dsimp only; omega) (by dsimp only; omega)
end
local macro_rules | `(tactic| walk_at "none 1") => `(tactic| skip)
local macro_rules | `(tactic| walk_at "none 2") => `(tactic| skip)

section
inductive Pairs (news : Led) : List Value → List (Int × Int) → Prop
  | nil : Pairs news [] []
  | cons {a : Addr} {n : Nat} {x y : Int} {t u : Tok} {vs : List Value} {cs : List (Int × Int)} : (a, tupO [.int x t, .int y u] n) ∈ news → Pairs news vs cs → Pairs news (.ref a :: vs) ((x, y) :: cs)
theorem Pairs.mono {news news' : Led} (hs : ∀ e ∈ news, e ∈ news') : ∀ {vs : List Value} {cs : List (Int × Int)}, Pairs news vs cs → Pairs news' vs cs
  | _, _, .nil => .nil
  | _, _, .cons h r => .cons (hs _ h) (r.mono hs)
theorem Pairs.snoc {news : Led} {a : Addr} {n : Nat} {x y : Int} {t u : Tok} (h : (a, tupO [.int x t, .int y u] n) ∈ news) : ∀ {vs : List Value} {cs : List (Int × Int)}, Pairs news vs cs → Pairs news (vs ++ [.ref a]) (cs ++ [(x, y)])
  | _, _, .nil => .cons h .nil
  | _, _, .cons g r => .cons g (r.snoc h)
theorem Pairs.length {news : Led} : ∀ {vs : List Value} {cs : List (Int × Int)}, Pairs news vs cs → vs.length = cs.length
  | _, _, .nil => rfl
  | _, _, .cons _ r => congrArg (· + 1) r.length
theorem Pairs.get {news : Led} : ∀ {vs : List Value} {cs : List (Int × Int)}, Pairs news vs cs → ∀ {k : Nat} {c : Int × Int}, cs[k]? = some c → ∃ a n t u, vs[k]? = some (.ref a) ∧ (a, tupO [.int c.1 t, .int c.2 u] n) ∈ news
  | _, _, .nil, _, _, h => (by simp at h)
  | _, _, .cons g r, 0, c, h => by
    obtain rfl := Option.some.inj h
    exact ⟨_, _, _, _, rfl, g⟩
  | _, _, .cons g r, k + 1, c, h => by
    obtain ⟨a, n, t, u, h1, h2⟩ := r.get (k := k) (c := c) (by simpa using h)
    exact ⟨a, n, t, u, by simpa using h1, h2⟩

def PPairs (cs : List (Int × Int)) (tl : Led) (v : Value) : Prop := ∃ a n vs tl', tl = (a, listOf vs.toArray n) :: tl' ∧ v = .ref a ∧ Pairs tl' vs cs
theorem usePairs {w : World} {mean : ExcName → Option Value} {mg mb : Str → Option Value} {f : Addr} {k u : Nat} {news : Led} {vs : List Value}
    {dp un : Nat} {gd : Option (List Code)} {cn : Str} {cs : Scope} {a : Addr} {ccd : Value} {cl : List (Str × Addr)} {outer : List Env} {A₀ : Around} {base h₀ : Heap} {L : Addr} {m : Str → Option Value} {s : Shared} {Q E : Value → Shared → Prop} {ps : List (Int × Int)}
    (B : Below A₀ base outer h₀) (F : Fr h₀ L s.heap m) (X : (hd.heap_39 w.params).In h₀) (N : News h₀ L s.heap news) (T : Top hd.view_39 (looseW hd.view_39 []) mean mg mb h₀) (hk : cs.kind = .function) (hd' : dp + k < recursionLimit) (hu : un + u < cLine) (C : Claim w mean mg mb f k u news vs (PPairs ps))
    (ret : ∀ (b : Addr) (n : Nat) (ws : List Value) (tl : Led) (h' : Heap) (tk' : Nat), Pairs tl ws ps → Fr h₀ L h' m → News h₀ L h' ((b, listOf ws.toArray n) :: (tl ++ news)) → AllLt b news → (∀ p ∈ tl, ∀ q ∈ news, q.1 < p.1) → Q (.ref b) { s with heap := h', toks := tk' }) :
    wpAny (model PySem.Challenge.rw_sa0075_01.row.prog w) (ktrTop dp un gd cn cs L a ccd cl outer) (call (.ref f) vs) Q E s := by
  refine C _ _ _ _ _ _ _ _ _ _ _ _ _ _ _ _ _ B F X N T hk hd' hu fun v tl h' tk' F' N' l p => ?_
  obtain ⟨b, n, ws, tl', rfl, rfl, hp⟩ := p
  exact ret b n ws tl' h' tk' hp F' N' (allLt_of fun q hq => l _ (.head _) q hq) fun p hp q hq => l p (.tail _ hp) q hq

theorem endPairs {h₀ : Heap} {L : Addr} {m : Str → Option Value} {s : Shared} {Q : Value → Shared → Prop} {news tl : Led} {ps : List (Int × Int)} {ws : List Value} {b : Addr} {n : Nat} {h' : Heap} {tk' : Nat} (ret : Hret news h₀ L m s Q (PPairs ps)) (F : Fr h₀ L h' m) (N : News h₀ L h' ((b, listOf ws.toArray n) :: (tl ++ news)))
    (hl : ∀ p ∈ news, p.1 < b) (hu : ∀ p ∈ tl, ∀ q ∈ news, q.1 < p.1) (hp : Pairs tl ws ps) : Q (.ref b) { s with heap := h', toks := tk' } := by
  refine ret _ ((b, listOf ws.toArray n) :: tl) _ _ F N (fun p hp q hq => ?_) ⟨b, n, ws, tl, rfl, rfl, hp⟩
  rcases List.mem_cons.mp hp with rfl | hp
  · exact hl q hq
  · exact hu p hp q hq

def conv? : Int → Int → Int → Int → List Int → Option (List (Int × Int))
  | _, _, _, _, [] => some []
  | a, b, c, d, n :: r => if (small n && decide (0 ≤ n * b + d)) = true then (conv? (n * a + c) (n * b + d) a b r).map ((n * a + c, n * b + d) :: ·) else none
theorem conv_step {a b c d n : Int} {r : List Int} {post : List (Int × Int)} (h : conv? a b c d (n :: r) = some post) :
    n.natAbs < 1073741824 ∧ 0 ≤ n * b + d ∧ ∃ post', post = (n * a + c, n * b + d) :: post' ∧ conv? (n * a + c) (n * b + d) a b r = some post' := by
  unfold conv? at h
  split at h
  · rename_i hc
    simp only [Bool.and_eq_true, small_iff, decide_eq_true_eq] at hc
    obtain ⟨post', h5, h6⟩ := Option.map_eq_some_iff.mp h
    exact ⟨hc.1, hc.2, post', h6.symm, h5⟩
  · cases h

structure CS where
  x1 : Addr
  n1 : Nat
  t1 : Tok
  u1 : Tok
  a : Int
  b : Int
  x2 : Addr
  n2 : Nat
  t2 : Tok
  u2 : Tok
  c : Int
  d : Int
  vs : List Value
  nl : Nat
  tl : Led
  pre : List (Int × Int)
abbrev CvLed (l : Addr) (news : Led) (c : CS) : Led := (c.x1, tupO [.int c.a c.t1, .int c.b c.u1] c.n1) :: (c.x2, tupO [.int c.c c.t2, .int c.d c.u2] c.n2) :: (l, listOf c.vs.toArray c.nl) :: (c.tl ++ news)
structure CvP (l : Addr) (news : Led) (ns : List Int) (cs : List (Int × Int)) (i : Nat) (c : CS) (post : List (Int × Int)) : Prop where
  pairs : Pairs c.tl c.vs c.pre
  n1 : c.x1 ≠ l
  n2 : c.x2 ≠ l
  nt : ∀ p ∈ c.tl, p.1 ≠ l
  up : ∀ p ∈ c.tl, ∀ q ∈ news, q.1 < p.1
  conv : conv? c.a c.b c.c c.d (ns.drop i) = some post
  whole : cs = c.pre ++ post
  len : c.pre.length = i
def CvJ (l : Addr) (news : Led) (ns : List Int) (cs : List (Int × Int)) (m₀ : Str → Option Value) (i : Nat) (m : Str → Option Value) (nx : Led) : Prop :=
  ∃ (c : CS) (post : List (Int × Int)), nx = CvLed l news c ∧ m (Str.ofString "one") = some (.ref c.x1) ∧ m (Str.ofString "other") = some (.ref c.x2) ∧ (∀ z, z ≠ Str.ofString "whole" → z ≠ Str.ofString "one" → z ≠ Str.ofString "other" → m z = m₀ z) ∧ CvP l news ns cs i c post
abbrev CvEnd (h₀ : Heap) (L : Addr) (y : Addr) (ws : List Value) (ny : Nat) (l : Addr) (news : Led) (ns : List Int) (cs : List (Int × Int)) (m₀ : Str → Option Value) (i : Nat) : (Str → Option Value) → Led → Prop :=
  fun m' nx => (y, listOf ws.toArray ny) ∈ nx ∧ CvJ l news ns cs m₀ (i + 1) m' nx

theorem cv_loop {prog : Program} {w : World} {A : Around} {E : Value → Shared → Prop} {Q : Flow → Shared → Prop} {s : Shared} {env : Env} {h₀ : Heap} {L : Addr} {body : List Stmt} {m₀ : Str → Option Value} {Lg news : Led} {l x1 x2 y : Addr} {n1 n2 nl ny : Nat} {t1 u1 t2 u2 : Tok} {a b c d : Int} {ws : List Value} {ns : List Int} {cs : List (Int × Int)}
    (hL : env.locals = L) (hh : A.handled = none) (F : Fr h₀ L s.heap m₀) (N : News h₀ L s.heap Lg) (hy : (y, listOf ws.toArray ny) ∈ news) (hi : IntsAre ws ns)
    (hm1 : m₀ (Str.ofString "one") = some (.ref x1)) (hm2 : m₀ (Str.ofString "other") = some (.ref x2)) (hl : (l, listOf #[] nl) ∈ Lg) (hx1 : (x1, tupO [.int a t1, .int b u1] n1) ∈ Lg) (hx2 : (x2, tupO [.int c t2, .int d u2] n2) ∈ Lg) (hs : ∀ e ∈ news, e ∈ Lg)
    (h1 : x1 ≠ l) (h2 : x2 ≠ l) (hln : ∀ e ∈ news, e.1 < l) (hc : conv? a b c d ns = some cs) (hlen : ns.length ≤ 1000)
    (turn : ∀ (n : Int) (tn : Tok) (i : Nat) (c : CS) (post : List (Int × Int)) (h : Heap) (tk : Nat) (own : Led), CvP l news ns cs i c post → conv? c.a c.b c.c c.d (n :: ns.drop (i + 1)) = some post → OwnOff own ((CvLed l news c).map (·.1)) → (∀ p ∈ (c.tl ++ news) ++ own, p.1 ≠ l) → c.vs.length ≤ 1000 →
      Fr h₀ L h (fun z => if z = Str.ofString "whole" then some (.int n tn) else if z = Str.ofString "one" then some (.ref c.x1) else if z = Str.ofString "other" then some (.ref c.x2) else m₀ z) →
      News h₀ L h ((c.x1, tupO [.int c.a c.t1, .int c.b c.u1] c.n1) :: (c.x2, tupO [.int c.c c.t2, .int c.d c.u2] c.n2) :: (l, listOf c.vs.toArray c.nl) :: ((c.tl ++ news) ++ own)) →
      wpAny (model prog w) A (execs body env) (InvPostG h₀ L (CvEnd h₀ L y ws ny l news ns cs m₀ i) own { s with heap := h, toks := tk } Q) E { s with heap := h, toks := tk })
    (done : ∀ (vs : List Value) (nl : Nat) (tl : Led) (v : Str → Option Value) (h : Heap) (tk : Nat), Pairs tl vs cs → (∀ p ∈ tl, ∀ q ∈ news, q.1 < p.1) →
      Fr h₀ L h (fun z => if z = Str.ofString "whole" then v z else if z = Str.ofString "one" then v z else if z = Str.ofString "other" then v z else m₀ z) → News h₀ L h ((l, listOf vs.toArray nl) :: (tl ++ news)) → Q .next { s with heap := h, toks := tk }) :
    wpAny (model prog w) A (pyIter (.ref y)) (fun it s₂ => LoopAtV prog w A h₀ env (Str.ofString "whole") body Q E it s₂) E s := by
  subst hL
  have hN0 : ∀ e ∈ CvLed l news ⟨x1, n1, t1, u1, a, b, x2, n2, t2, u2, c, d, [], nl, [], []⟩, e ∈ Lg := by
    intro e he
    rcases List.mem_cons.mp he with rfl | he
    · exact hx1
    · rcases List.mem_cons.mp he with rfl | he
      · exact hx2
      · rcases List.mem_cons.mp he with rfl | he
        · exact hl
        · exact hs _ (by simpa using he)
  refine kdl_iter (news := CvLed l news ⟨x1, n1, t1, u1, a, b, x2, n2, t2, u2, c, d, [], nl, [], []⟩) (fun i m nx => CvJ l news ns cs m₀ i m nx) hh (.tail _ (.tail _ (.tail _ (List.mem_append.mpr (.inr hy))))) F (fun e he => N e (hN0 e he))
    ⟨⟨x1, n1, t1, u1, a, b, x2, n2, t2, u2, c, d, [], nl, [], []⟩, cs, rfl, hm1, hm2, fun _ _ _ _ => rfl, ⟨.nil, h1, h2, (fun _ h => nomatch h), (fun _ h => nomatch h), by simpa using hc, rfl, rfl⟩⟩ ?_ ?_
  · rintro i v m₁ nx h tk own hv hoff _ ⟨c, post, rfl, g1, g2, g3, P⟩ F₁ N₁
    have hi' : i < ns.length := by rw [← hi.length]; exact (List.getElem?_eq_some_iff.mp hv).1
    obtain ⟨t, hx⟩ := hi.get i (ns[i]'hi') (List.getElem?_eq_getElem hi')
    have ev : v = .int (ns[i]'hi') t := by rw [hx] at hv; exact (Option.some.inj hv).symm
    subst ev
    have hd' : ns.drop i = ns[i]'hi' :: ns.drop (i + 1) := List.drop_eq_getElem_cons hi'
    have hne : ∀ p ∈ (c.tl ++ news) ++ own, p.1 ≠ l := by
      intro p hp
      rcases List.mem_append.mp hp with hp | hp
      · rcases List.mem_append.mp hp with hp | hp
        · exact P.nt p hp
        · exact Nat.ne_of_lt (hln p hp)
      · exact hoff p hp l (.tail _ (.tail _ (.head _)))
    have hF : Fr h₀ env.locals h (fun z => if z = Str.ofString "whole" then some (.int (ns[i]'hi') t) else if z = Str.ofString "one" then some (.ref c.x1) else if z = Str.ofString "other" then some (.ref c.x2) else m₀ z) := by
      have e : (fun z => if z = Str.ofString "whole" then some (Value.int (ns[i]'hi') t) else if z = Str.ofString "one" then some (.ref c.x1) else if z = Str.ofString "other" then some (.ref c.x2) else m₀ z) = fun z => if z = Str.ofString "whole" then some (Value.int (ns[i]'hi') t) else m₁ z := by
        funext z
        by_cases e1 : z = Str.ofString "whole"
        · rw [if_pos e1, if_pos e1]
        · rw [if_neg e1, if_neg e1]
          by_cases e2 : z = Str.ofString "one"
          · rw [if_pos e2, e2]; exact g1.symm
          · rw [if_neg e2]
            by_cases e3 : z = Str.ofString "other"
            · rw [if_pos e3, e3]; exact g2.symm
            · rw [if_neg e3]; exact (g3 z e1 e2 e3).symm
      rw [e]; exact F₁
    exact turn _ t i c post h tk own P (by rw [← hd']; exact P.conv) hoff hne (by rw [P.pairs.length, P.len]; omega) hF N₁
  · rintro m₁ nx h tk ⟨c, post, rfl, g1, g2, g3, P⟩ F₁ N₁
    have hp : post = [] := by
      have := P.conv
      rw [List.drop_eq_nil_of_le (by rw [hi.length]; exact Nat.le_refl _)] at this
      exact (Option.some.inj this).symm
    have hcs : cs = c.pre := by rw [P.whole, hp, List.append_nil]
    refine done c.vs c.nl c.tl m₁ h tk (hcs ▸ P.pairs) P.up ?_ (fun e he => N₁ e (.tail _ (.tail _ he)))
    have e : (fun z => if z = Str.ofString "whole" then m₁ z else if z = Str.ofString "one" then m₁ z else if z = Str.ofString "other" then m₁ z else m₀ z) = m₁ := by
      funext z
      by_cases e1 : z = Str.ofString "whole"
      · rw [if_pos e1]
      · rw [if_neg e1]
        by_cases e2 : z = Str.ofString "one"
        · rw [if_pos e2]
        · rw [if_neg e2]
          by_cases e3 : z = Str.ofString "other"
          · rw [if_pos e3]
          · rw [if_neg e3]; exact (g3 z e1 e2 e3).symm
    rw [e]; exact F₁

theorem allLt_mem {d : Addr} : ∀ {l : Led}, AllLt d l → ∀ p ∈ l, p.1 < d := fun h p hp => ktn_ltOf h p hp
theorem cv_end {h₀ h' : Heap} {L : Addr} {s₁ : Shared} {m₀ m' : Str → Option Value} {news news' own : Led} {tk : Nat} {l y D : Addr} {ws : List Value} {ny nn nl i : Nat} {ns : List Int} {cs post : List (Int × Int)} {c : CS} {n : Int} {t u : Tok}
    (F : Fr h₀ L h' m') (N : News h₀ L h' news') (hr1 : m' (Str.ofString "one") = some (.ref D)) (hr2 : m' (Str.ofString "other") = some (.ref c.x1)) (P : CvP l news ns cs i c post) (hc : conv? c.a c.b c.c c.d (n :: ns.drop (i + 1)) = some post)
    (hm : ∀ z, z ≠ Str.ofString "whole" → z ≠ Str.ofString "one" → z ≠ Str.ofString "other" → m' z = m₀ z)
    (hD : (D, tupO [.int (n * c.a + c.c) t, .int (n * c.b + c.d) u] nn) ∈ news') (h1 : (c.x1, tupO [.int c.a c.t1, .int c.b c.u1] c.n1) ∈ news') (hl : (l, listOf (c.vs ++ [Value.ref D]).toArray nl) ∈ news') (hs : ∀ e ∈ (c.tl ++ news) ++ own, e ∈ news')
    (hoff : OwnOff own ((CvLed l news c).map (·.1))) (hDl : l < D) (hDa : AllLt D ((c.tl ++ news) ++ own)) (hy : (y, listOf ws.toArray ny) ∈ news) :
    InvEndG h₀ L (CvEnd h₀ L y ws ny l news ns cs m₀ i) own s₁ { s₁ with heap := h', toks := tk } := by
  obtain ⟨_, _, post', e1, e2⟩ := conv_step hc
  have hlt := allLt_mem hDa
  have own' : ∀ p ∈ own, p.1 < D := fun p hp => hlt p (List.mem_append.mpr (.inr hp))
  refine ⟨h', tk, m', news', CvLed l news ⟨D, nn, t, u, n * c.a + c.c, n * c.b + c.d, c.x1, c.n1, c.t1, c.u1, c.a, c.b, c.vs ++ [Value.ref D], nl, (D, tupO [.int (n * c.a + c.c) t, .int (n * c.b + c.d) u] nn) :: c.tl, c.pre ++ [(n * c.a + c.c, n * c.b + c.d)]⟩, rfl, F, N, ?_, fun e he => hs e (List.mem_append.mpr (.inr he)), ?_, ?_, ⟨_, post', rfl, hr1, hr2, hm, ?_⟩⟩
  · intro e he
    rcases List.mem_cons.mp he with rfl | he
    · exact hD
    · rcases List.mem_cons.mp he with rfl | he
      · exact h1
      · rcases List.mem_cons.mp he with rfl | he
        · exact hl
        · rcases List.mem_cons.mp he with rfl | he
          · exact hD
          · exact hs e (List.mem_append.mpr (.inl he))
  · intro p hp b hb
    rcases List.mem_cons.mp hb with rfl | hb
    · exact Nat.ne_of_lt (own' p hp)
    · rcases List.mem_cons.mp hb with rfl | hb
      · exact hoff p hp _ (.head _)
      · rcases List.mem_cons.mp hb with rfl | hb
        · exact hoff p hp _ (.tail _ (.tail _ (.head _)))
        · rcases List.mem_cons.mp hb with rfl | hb
          · exact Nat.ne_of_lt (own' p hp)
          · exact hoff p hp b (.tail _ (.tail _ (.tail _ hb)))
  · exact .tail _ (.tail _ (.tail _ (List.mem_append.mpr (.inr hy))))
  · refine ⟨Pairs.snoc (.head _) (P.pairs.mono fun e he => .tail _ he), Nat.ne_of_gt hDl, P.n1, ?_, ?_, e2, ?_, ?_⟩
    · intro p hp
      rcases List.mem_cons.mp hp with rfl | hp
      · exact Nat.ne_of_gt hDl
      · exact P.nt p hp
    · intro p hp q hq
      rcases List.mem_cons.mp hp with rfl | hp
      · exact hlt q (List.mem_append.mpr (.inl (List.mem_append.mpr (.inr hq))))
      · exact P.up p hp q hq
    · rw [P.whole, e1, List.append_assoc]; rfl
    · rw [List.length_append, P.len]; rfl

local macro_rules | `(tactic| k_all) => `(tactic| assumption)
local macro_rules | `(tactic| size_fits) => `(tactic| (rw [List.size_toArray, sizeLine_eq]; omega))
local macro_rules | `(tactic| walk_at "pyIter ref") => `(tactic| (k_here; (with_reducible rename Fr _ _ _ _ => lF'); (with_reducible rename News _ _ _ _ => lN'); k_dflt (refine cv_loop (by exact rfl) (by exact rfl) lF' lN' (by assumption) (by assumption) (by exact rfl) (by exact rfl) (by k_mem) (by k_mem) (by k_mem) (by kcj_all) (by k_ne) (by k_ne) (by assumption) (by assumption) (by assumption) ?kt ?kd); (case' kt => (intro n' tn' i' c' po' h' tk' own' hP' hcv' hoff' hne' hlen' F' N'; (have hst' := conv_step hcv'); (obtain ⟨hn', hy', hst'⟩ := hst'); (have hx1' := CvP.n1 hP'); (have hx2' := CvP.n2 hP'); (clear hst' lF' lN'); (try k_fold))); (case' kd => (intro vs' nl' tl' v' h' tk' hp' hup' F' N'; (clear lF' lN'); (try k_fold)))))

set_option maxHeartbeats 4000000 in
theorem conv_c (w : World) (mean : ExcName → Option Value) (mg mb : Str → Option Value) (news : Led) {x : Addr} {n : Nat} {ws : List Value} {ns : List Int} {cs : List (Int × Int)}
    (hx : (x, listOf ws.toArray n) ∈ news) (hi : IntsAre ws ns) (hcv : conv? 1 0 0 1 ns = some cs) (hln : ns.length ≤ 1000) :
    Claim w mean mg mb 97 2 64 news [.ref x] (PPairs cs) := by
  unfold Claim
  intro dp un gd cn scs a' ccd cl outer A₀ base h₀ L m s Q E B F X N T hk hd' hu hret
  refine wpAny_call ?_
  k_with_none
  w_top off
  k_with "mycall" => (k_here; (with_reducible show wpAny _ _ (call (Value.ref 41) _) _ _ _); k_dflt (refine useInt (by k_asm) (by k_asm) (by k_asm) (by k_asm) (by k_asm) (by (first | exact rfl | assumption)) (by ktr_room) (by ktr_units) (gcd_c _ _ _ _ _ _ _ _ _) ?_); intro t9 h9 tk9 F9 N9; (try dsimp only); (try k_fold))
  k_with "mycall" => (k_here; (with_reducible show wpAny _ _ (call (Value.ref 48) _) _ _ _); k_dflt (refine usePair (by k_asm) (by k_asm) (by k_asm) (by k_asm) (by k_asm) (by (first | exact rfl | assumption)) (by ktr_room) (by ktr_units) (rat_c _ _ _ _ _ _ _ _ _ (by (first | assumption | omega | k_extra "side")) (by (first | assumption | omega | k_extra "side"))) ?_); intro b9 n9 t9 u9 h9 tk9 F9 N9 l9; (try simp only [AllLt, and_true] at l9); (try dsimp only); (try k_fold))
  k_with "mycall" => (k_here; (with_reducible show wpAny _ _ (call (Value.ref 55) _) _ _ _); k_dflt (refine usePair (by k_asm) (by k_asm) (by k_asm) (by k_asm) (by k_asm) (by (first | exact rfl | assumption)) (by ktr_room) (by ktr_units) (rsub_c _ _ _ _ _ (by k_mem) (by k_mem) (by (first | assumption | omega | k_extra "side")) (by (first | assumption | omega | k_extra "side")) (by (first | assumption | omega | k_extra "side")) (by (first | assumption | omega | k_extra "side")) (by (first | assumption | omega | k_extra "side"))) ?_); intro b9 n9 t9 u9 h9 tk9 F9 N9 l9; (try simp only [AllLt, and_true] at l9); (try dsimp only); (try k_fold))
  k_with "mycall" => (k_here; (with_reducible show wpAny _ _ (call (Value.ref 62) _) _ _ _); k_dflt (refine usePair (by k_asm) (by k_asm) (by k_asm) (by k_asm) (by k_asm) (by (first | exact rfl | assumption)) (by ktr_room) (by ktr_units) (rneg_c _ _ _ _ _ (by k_mem)) ?_); intro b9 n9 t9 u9 h9 tk9 F9 N9 l9; (try simp only [AllLt, and_true] at l9); (try dsimp only); (try k_fold))
  k_with "mycall" => (k_here; (with_reducible show wpAny _ _ (call (Value.ref 69) _) _ _ _); k_dflt (refine usePair (by k_asm) (by k_asm) (by k_asm) (by k_asm) (by k_asm) (by (first | exact rfl | assumption)) (by ktr_room) (by ktr_units) (rinv_c _ _ _ _ _ (by k_mem) (by (first | assumption | omega | k_extra "side")) (by (first | assumption | omega | k_extra "side"))) ?_); intro b9 n9 t9 u9 h9 tk9 F9 N9 l9; (try simp only [AllLt, and_true] at l9); (try dsimp only); (try k_fold))
  k_with "mycall" => (k_here; (with_reducible show wpAny _ _ (call (Value.ref 76) _) _ _ _); k_dflt (refine useInt (by k_asm) (by k_asm) (by k_asm) (by k_asm) (by k_asm) (by (first | exact rfl | assumption)) (by ktr_room) (by ktr_units) (rcompare_c _ _ _ _ _ (by k_mem) (by k_mem) (by (first | assumption | omega | k_extra "side")) (by (first | assumption | omega | k_extra "side"))) ?_); intro t9 h9 tk9 F9 N9; (try dsimp only); (try k_fold))
  k_with "mycall" => (k_here; (with_reducible show wpAny _ _ (call (Value.ref 83) _) _ _ _); k_dflt (refine useInt (by k_asm) (by k_asm) (by k_asm) (by k_asm) (by k_asm) (by (first | exact rfl | assumption)) (by ktr_room) (by ktr_units) (rfloor_c _ _ _ _ _ (by k_mem) (by (first | assumption | omega | k_extra "side")) (by (first | assumption | omega | k_extra "side"))) ?_); intro t9 h9 tk9 F9 N9; (try dsimp only); (try k_fold))
  k_with "mycall" => (k_here; (with_reducible show wpAny _ _ (call (Value.ref 90) _) _ _ _); k_dflt (refine useInts (by k_asm) (by k_asm) (by k_asm) (by k_asm) (by k_asm) (by (first | exact rfl | assumption)) (by ktr_room) (by ktr_units) (frow_c _ _ _ _ _ (by k_mem) (by (first | assumption | k_extra "frow")) (by omega)) ?_); intro b9 n9 w9 h9 tk9 I9 F9 N9 l9; (try simp only [AllLt, and_true] at l9); (try dsimp only); (try k_fold))
  k_dflt ktr_enter
  k_steps
  · exact endPairs hret (by k_asm) (by assumption) (by assumption) (by assumption) (by assumption)
  · exact cv_end (by assumption) (by assumption) (by exact rfl) (by exact rfl) (by assumption) (by assumption) (by intro z h1 h2 h3; simp [h1, h2, h3]) (by k_mem) (by k_mem) (by first | k_mem | (simp only [← List.push_toArray]; k_mem)) (by kcj_all) (by assumption) (by refine ltN ?_; omega) (by first | assumption | exact And.right (And.right (And.right (by assumption))) | exact And.right (And.right (And.right (And.right (by assumption))))) (by assumption)
end
local macro_rules | `(tactic| walk_at "none 3") => `(tactic| skip)
local macro_rules | `(tactic| walk_at "none 4") => `(tactic| skip)

section
def absZ (x : Int) : Int := if x < 0 then -x else x
def distX (p q a b : Int) : Int := absZ ((p * b - a * q).fdiv (ratG (p * b - a * q) (q * b)))
def distY (p q a b : Int) : Int := (q * b).fdiv (ratG (p * b - a * q) (q * b))
set_option maxHeartbeats 4000000 in
theorem dist_c (w : World) (mean : ExcName → Option Value) (mg mb : Str → Option Value) (news : Led) {x y : Addr} {n n' : Nat} {t u t' u' : Tok} {a b c d : Int}
    (hx : (x, tupO [.int a t, .int b u] n) ∈ news) (hy : (y, tupO [.int c t', .int d u'] n') ∈ news)
    (h0 : b * d ≠ 0) (hB : (b * d).natAbs < 1073741824) (ha : a.natAbs < 1073741824) (hb : b.natAbs < 1073741824) (hc : c.natAbs < 1073741824) :
    Claim w mean mg mb 104 5 40 news [.ref x, .ref y] (PPair (distX a b c d) (distY a b c d)) := by
  unfold Claim
  intro dp un gd cn scs a' ccd cl outer A₀ base h₀ L m s Q E B F X N T hk hd' hu hret
  refine wpAny_call ?_
  k_with_none
  w_top off
  k_with "mycall" => (k_here; (with_reducible show wpAny _ _ (call (Value.ref 41) _) _ _ _); k_dflt (refine useInt (by k_asm) (by k_asm) (by k_asm) (by k_asm) (by k_asm) (by (first | exact rfl | assumption)) (by ktr_room) (by ktr_units) (gcd_c _ _ _ _ _ _ _ _ _) ?_); intro t9 h9 tk9 F9 N9; (try dsimp only); (try k_fold))
  k_with "mycall" => (k_here; (with_reducible show wpAny _ _ (call (Value.ref 48) _) _ _ _); k_dflt (refine usePair (by k_asm) (by k_asm) (by k_asm) (by k_asm) (by k_asm) (by (first | exact rfl | assumption)) (by ktr_room) (by ktr_units) (rat_c _ _ _ _ _ _ _ _ _ (by (first | assumption | omega | k_extra "side")) (by (first | assumption | omega | k_extra "side"))) ?_); intro b9 n9 t9 u9 h9 tk9 F9 N9 l9; (try simp only [AllLt, and_true] at l9); (try dsimp only); (try k_fold))
  k_with "mycall" => (k_here; (with_reducible show wpAny _ _ (call (Value.ref 55) _) _ _ _); k_dflt (refine usePair (by k_asm) (by k_asm) (by k_asm) (by k_asm) (by k_asm) (by (first | exact rfl | assumption)) (by ktr_room) (by ktr_units) (rsub_c _ _ _ _ _ (by k_mem) (by k_mem) (by (first | assumption | omega | k_extra "side")) (by (first | assumption | omega | k_extra "side")) (by (first | assumption | omega | k_extra "side")) (by (first | assumption | omega | k_extra "side")) (by (first | assumption | omega | k_extra "side"))) ?_); intro b9 n9 t9 u9 h9 tk9 F9 N9 l9; (try simp only [AllLt, and_true] at l9); (try dsimp only); (try k_fold))
  k_with "mycall" => (k_here; (with_reducible show wpAny _ _ (call (Value.ref 62) _) _ _ _); k_dflt (refine usePair (by k_asm) (by k_asm) (by k_asm) (by k_asm) (by k_asm) (by (first | exact rfl | assumption)) (by ktr_room) (by ktr_units) (rneg_c _ _ _ _ _ (by k_mem)) ?_); intro b9 n9 t9 u9 h9 tk9 F9 N9 l9; (try simp only [AllLt, and_true] at l9); (try dsimp only); (try k_fold))
  k_with "mycall" => (k_here; (with_reducible show wpAny _ _ (call (Value.ref 69) _) _ _ _); k_dflt (refine usePair (by k_asm) (by k_asm) (by k_asm) (by k_asm) (by k_asm) (by (first | exact rfl | assumption)) (by ktr_room) (by ktr_units) (rinv_c _ _ _ _ _ (by k_mem) (by (first | assumption | omega | k_extra "side")) (by (first | assumption | omega | k_extra "side"))) ?_); intro b9 n9 t9 u9 h9 tk9 F9 N9 l9; (try simp only [AllLt, and_true] at l9); (try dsimp only); (try k_fold))
  k_with "mycall" => (k_here; (with_reducible show wpAny _ _ (call (Value.ref 76) _) _ _ _); k_dflt (refine useInt (by k_asm) (by k_asm) (by k_asm) (by k_asm) (by k_asm) (by (first | exact rfl | assumption)) (by ktr_room) (by ktr_units) (rcompare_c _ _ _ _ _ (by k_mem) (by k_mem) (by (first | assumption | omega | k_extra "side")) (by (first | assumption | omega | k_extra "side"))) ?_); intro t9 h9 tk9 F9 N9; (try dsimp only); (try k_fold))
  k_with "mycall" => (k_here; (with_reducible show wpAny _ _ (call (Value.ref 83) _) _ _ _); k_dflt (refine useInt (by k_asm) (by k_asm) (by k_asm) (by k_asm) (by k_asm) (by (first | exact rfl | assumption)) (by ktr_room) (by ktr_units) (rfloor_c _ _ _ _ _ (by k_mem) (by (first | assumption | omega | k_extra "side")) (by (first | assumption | omega | k_extra "side"))) ?_); intro t9 h9 tk9 F9 N9; (try dsimp only); (try k_fold))
  k_with "mycall" => (k_here; (with_reducible show wpAny _ _ (call (Value.ref 90) _) _ _ _); k_dflt (refine useInts (by k_asm) (by k_asm) (by k_asm) (by k_asm) (by k_asm) (by (first | exact rfl | assumption)) (by ktr_room) (by ktr_units) (frow_c _ _ _ _ _ (by k_mem) (by (first | assumption | k_extra "frow")) (by omega)) ?_); intro b9 n9 w9 h9 tk9 I9 F9 N9 l9; (try simp only [AllLt, and_true] at l9); (try dsimp only); (try k_fold))
  k_with "mycall" => (k_here; (with_reducible show wpAny _ _ (call (Value.ref 97) _) _ _ _); k_dflt (refine usePairs (by k_asm) (by k_asm) (by k_asm) (by k_asm) (by k_asm) (by (first | exact rfl | assumption)) (by ktr_room) (by ktr_units) (conv_c _ _ _ _ _ (by k_mem) (by assumption) (by (first | assumption | k_extra "conv")) (by (first | assumption | omega))) ?_); intro b9 n9 w9 tl9 h9 tk9 P9 F9 N9 l9 o9; (try simp only [AllLt, and_true] at l9); (try dsimp only); (try k_fold))
  k_dflt ktr_enter
  k_steps
  all_goals exact endPair hret (by k_asm) (by assumption) (by k_mem) (by kcj_all) (by first | assumption | exact allLt_of (by assumption) | exact And.right (by assumption)) rfl rfl

def PRef2 (b : Bool) (x y : Addr) (tl : Led) (v : Value) : Prop := tl = [] ∧ v = .ref (if b = true then x else y)
theorem useRef2 {w : World} {mean : ExcName → Option Value} {mg mb : Str → Option Value} {f : Addr} {k u : Nat} {news : Led} {vs : List Value}
    {dp un : Nat} {gd : Option (List Code)} {cn : Str} {cs : Scope} {a : Addr} {ccd : Value} {cl : List (Str × Addr)} {outer : List Env} {A₀ : Around} {base h₀ : Heap} {L : Addr} {m : Str → Option Value} {s : Shared} {Q E : Value → Shared → Prop} {b : Bool} {x y : Addr}
    (B : Below A₀ base outer h₀) (F : Fr h₀ L s.heap m) (X : (hd.heap_39 w.params).In h₀) (N : News h₀ L s.heap news) (T : Top hd.view_39 (looseW hd.view_39 []) mean mg mb h₀) (hk : cs.kind = .function) (hd' : dp + k < recursionLimit) (hu : un + u < cLine) (C : Claim w mean mg mb f k u news vs (PRef2 b x y))
    (ret1 : b = true → ∀ (h' : Heap) (tk' : Nat), Fr h₀ L h' m → News h₀ L h' news → Q (.ref x) { s with heap := h', toks := tk' })
    (ret2 : b = false → ∀ (h' : Heap) (tk' : Nat), Fr h₀ L h' m → News h₀ L h' news → Q (.ref y) { s with heap := h', toks := tk' }) :
    wpAny (model PySem.Challenge.rw_sa0075_01.row.prog w) (ktrTop dp un gd cn cs L a ccd cl outer) (call (.ref f) vs) Q E s := by
  refine C _ _ _ _ _ _ _ _ _ _ _ _ _ _ _ _ _ B F X N T hk hd' hu fun v tl h' tk' F' N' _ p => ?_
  obtain ⟨rfl, rfl⟩ := p
  cases b with
  | true => exact ret1 rfl h' tk' F' N'
  | false => exact ret2 rfl h' tk' F' N'
theorem useRef2t {w : World} {mean : ExcName → Option Value} {mg mb : Str → Option Value} {f : Addr} {k u : Nat} {news : Led} {vs : List Value}
    {dp un : Nat} {gd : Option (List Code)} {cn : Str} {cs : Scope} {a : Addr} {ccd : Value} {cl : List (Str × Addr)} {outer : List Env} {A₀ : Around} {base h₀ : Heap} {L : Addr} {m : Str → Option Value} {s : Shared} {Q E : Value → Shared → Prop} {b : Bool} {x y : Addr}
    (B : Below A₀ base outer h₀) (F : Fr h₀ L s.heap m) (X : (hd.heap_39 w.params).In h₀) (N : News h₀ L s.heap news) (T : Top hd.view_39 (looseW hd.view_39 []) mean mg mb h₀) (hk : cs.kind = .function) (hd' : dp + k < recursionLimit) (hu : un + u < cLine) (C : Claim w mean mg mb f k u news vs (PRef2 b x y))
    (hb : b = true) (ret1 : ∀ (h' : Heap) (tk' : Nat), Fr h₀ L h' m → News h₀ L h' news → Q (.ref x) { s with heap := h', toks := tk' }) :
    wpAny (model PySem.Challenge.rw_sa0075_01.row.prog w) (ktrTop dp un gd cn cs L a ccd cl outer) (call (.ref f) vs) Q E s := by
  refine C _ _ _ _ _ _ _ _ _ _ _ _ _ _ _ _ _ B F X N T hk hd' hu fun v tl h' tk' F' N' _ p => ?_
  obtain ⟨rfl, rfl⟩ := p
  subst hb
  exact ret1 h' tk' F' N'
theorem useRef2f {w : World} {mean : ExcName → Option Value} {mg mb : Str → Option Value} {f : Addr} {k u : Nat} {news : Led} {vs : List Value}
    {dp un : Nat} {gd : Option (List Code)} {cn : Str} {cs : Scope} {a : Addr} {ccd : Value} {cl : List (Str × Addr)} {outer : List Env} {A₀ : Around} {base h₀ : Heap} {L : Addr} {m : Str → Option Value} {s : Shared} {Q E : Value → Shared → Prop} {b : Bool} {x y : Addr}
    (B : Below A₀ base outer h₀) (F : Fr h₀ L s.heap m) (X : (hd.heap_39 w.params).In h₀) (N : News h₀ L s.heap news) (T : Top hd.view_39 (looseW hd.view_39 []) mean mg mb h₀) (hk : cs.kind = .function) (hd' : dp + k < recursionLimit) (hu : un + u < cLine) (C : Claim w mean mg mb f k u news vs (PRef2 b x y))
    (hb : b = false) (ret2 : ∀ (h' : Heap) (tk' : Nat), Fr h₀ L h' m → News h₀ L h' news → Q (.ref y) { s with heap := h', toks := tk' }) :
    wpAny (model PySem.Challenge.rw_sa0075_01.row.prog w) (ktrTop dp un gd cn cs L a ccd cl outer) (call (.ref f) vs) Q E s := by
  refine C _ _ _ _ _ _ _ _ _ _ _ _ _ _ _ _ _ B F X N T hk hd' hu fun v tl h' tk' F' N' _ p => ?_
  obtain ⟨rfl, rfl⟩ := p
  subst hb
  exact ret2 h' tk' F' N'
theorem endRef2 {h₀ : Heap} {L : Addr} {m : Str → Option Value} {s : Shared} {Q : Value → Shared → Prop} {news news' : Led} {b : Bool} {x y z : Addr} {h' : Heap} {tk' : Nat} (ret : Hret news h₀ L m s Q (PRef2 b x y)) (F : Fr h₀ L h' m) (N : News h₀ L h' news') (hs : ∀ p ∈ news, p ∈ news')
    (e : z = if b = true then x else y) : Q (.ref z) { s with heap := h', toks := tk' } :=
  ret _ [] _ _ F (cb_drop N hs) (fun _ h => nomatch h) ⟨rfl, by rw [e]⟩

def nearSide (p q a b c d : Int) : Int := cmpZ (distX p q a b) (distY p q a b) (distX p q c d) (distY p q c d)
def nearZ (p q a b c d : Int) : Bool := if nearSide p q a b c d = 0 then decide (b ≤ d) else decide (nearSide p q a b c d < 0)
theorem near1 {p q a b c d : Int} {x y : Addr} (h : nearSide p q a b c d = 0) (h2 : b ≤ d) : x = if nearZ p q a b c d = true then x else y := by unfold nearZ; rw [if_pos h, if_pos (decide_eq_true h2)]
theorem near2 {p q a b c d : Int} {x y : Addr} (h : nearSide p q a b c d = 0) (h2 : ¬ b ≤ d) : y = if nearZ p q a b c d = true then x else y := by unfold nearZ; rw [if_pos h, decide_eq_false h2]; rfl
theorem near3 {p q a b c d : Int} {x y : Addr} (h : nearSide p q a b c d ≠ 0) (h2 : nearSide p q a b c d < 0) : x = if nearZ p q a b c d = true then x else y := by unfold nearZ; rw [if_neg h, if_pos (decide_eq_true h2)]
theorem near4 {p q a b c d : Int} {x y : Addr} (h : nearSide p q a b c d ≠ 0) (h2 : ¬ nearSide p q a b c d < 0) : y = if nearZ p q a b c d = true then x else y := by unfold nearZ; rw [if_neg h, decide_eq_false h2]; rfl

local macro_rules | `(tactic| walk_at "call ref") => `(tactic| (k_here; (with_reducible show wpAny _ _ (call (Value.ref 104) _) _ _ _); k_dflt (refine usePair (by k_asm) (by k_asm) (by k_asm) (by k_asm) (by k_asm) (by (first | exact rfl | assumption)) (by ktr_room) (by ktr_units) (dist_c _ _ _ _ _ (by k_mem) (by k_mem) (by (first | assumption | omega | k_extra "side")) (by (first | assumption | omega | k_extra "side")) (by (first | assumption | omega | k_extra "side")) (by (first | assumption | omega | k_extra "side")) (by (first | assumption | omega | k_extra "side"))) ?_); intro b9 n9 t9 u9 h9 tk9 F9 N9 l9; (try simp only [AllLt, and_true] at l9); (try dsimp only); (try k_fold)))
set_option maxHeartbeats 4000000 in
theorem near_c (w : World) (mean : ExcName → Option Value) (mg mb : Str → Option Value) (news : Led) {x y z : Addr} {n n' n'' : Nat} {t u t' u' t'' u'' : Tok} {p q a b c d : Int}
    (hz : (z, tupO [.int p t, .int q u] n) ∈ news) (hx : (x, tupO [.int a t', .int b u'] n') ∈ news) (hy : (y, tupO [.int c t'', .int d u''] n'') ∈ news)
    (h0 : q * b ≠ 0) (hB : (q * b).natAbs < 1073741824) (h0' : q * d ≠ 0) (hB' : (q * d).natAbs < 1073741824) (hp : p.natAbs < 1073741824) (hq : q.natAbs < 1073741824) (ha : a.natAbs < 1073741824) (hc : c.natAbs < 1073741824)
    (hX : (distX p q a b).natAbs < 1073741824) (hY : (distY p q a b).natAbs < 1073741824) :
    Claim w mean mg mb 111 6 48 news [.ref z, .ref x, .ref y] (PRef2 (nearZ p q a b c d) x y) := by
  unfold Claim
  intro dp un gd cn scs a' ccd cl outer A₀ base h₀ L m s Q E B F X N T hk hd' hu hret
  refine wpAny_call ?_
  k_with_none
  w_top off
  k_with "mycall" => (k_here; (with_reducible show wpAny _ _ (call (Value.ref 41) _) _ _ _); k_dflt (refine useInt (by k_asm) (by k_asm) (by k_asm) (by k_asm) (by k_asm) (by (first | exact rfl | assumption)) (by ktr_room) (by ktr_units) (gcd_c _ _ _ _ _ _ _ _ _) ?_); intro t9 h9 tk9 F9 N9; (try dsimp only); (try k_fold))
  k_with "mycall" => (k_here; (with_reducible show wpAny _ _ (call (Value.ref 48) _) _ _ _); k_dflt (refine usePair (by k_asm) (by k_asm) (by k_asm) (by k_asm) (by k_asm) (by (first | exact rfl | assumption)) (by ktr_room) (by ktr_units) (rat_c _ _ _ _ _ _ _ _ _ (by (first | assumption | omega | k_extra "side")) (by (first | assumption | omega | k_extra "side"))) ?_); intro b9 n9 t9 u9 h9 tk9 F9 N9 l9; (try simp only [AllLt, and_true] at l9); (try dsimp only); (try k_fold))
  k_with "mycall" => (k_here; (with_reducible show wpAny _ _ (call (Value.ref 55) _) _ _ _); k_dflt (refine usePair (by k_asm) (by k_asm) (by k_asm) (by k_asm) (by k_asm) (by (first | exact rfl | assumption)) (by ktr_room) (by ktr_units) (rsub_c _ _ _ _ _ (by k_mem) (by k_mem) (by (first | assumption | omega | k_extra "side")) (by (first | assumption | omega | k_extra "side")) (by (first | assumption | omega | k_extra "side")) (by (first | assumption | omega | k_extra "side")) (by (first | assumption | omega | k_extra "side"))) ?_); intro b9 n9 t9 u9 h9 tk9 F9 N9 l9; (try simp only [AllLt, and_true] at l9); (try dsimp only); (try k_fold))
  k_with "mycall" => (k_here; (with_reducible show wpAny _ _ (call (Value.ref 62) _) _ _ _); k_dflt (refine usePair (by k_asm) (by k_asm) (by k_asm) (by k_asm) (by k_asm) (by (first | exact rfl | assumption)) (by ktr_room) (by ktr_units) (rneg_c _ _ _ _ _ (by k_mem)) ?_); intro b9 n9 t9 u9 h9 tk9 F9 N9 l9; (try simp only [AllLt, and_true] at l9); (try dsimp only); (try k_fold))
  k_with "mycall" => (k_here; (with_reducible show wpAny _ _ (call (Value.ref 69) _) _ _ _); k_dflt (refine usePair (by k_asm) (by k_asm) (by k_asm) (by k_asm) (by k_asm) (by (first | exact rfl | assumption)) (by ktr_room) (by ktr_units) (rinv_c _ _ _ _ _ (by k_mem) (by (first | assumption | omega | k_extra "side")) (by (first | assumption | omega | k_extra "side"))) ?_); intro b9 n9 t9 u9 h9 tk9 F9 N9 l9; (try simp only [AllLt, and_true] at l9); (try dsimp only); (try k_fold))
  k_with "mycall" => (k_here; (with_reducible show wpAny _ _ (call (Value.ref 76) _) _ _ _); k_dflt (refine useInt (by k_asm) (by k_asm) (by k_asm) (by k_asm) (by k_asm) (by (first | exact rfl | assumption)) (by ktr_room) (by ktr_units) (rcompare_c _ _ _ _ _ (by k_mem) (by k_mem) (by (first | assumption | omega | k_extra "side")) (by (first | assumption | omega | k_extra "side"))) ?_); intro t9 h9 tk9 F9 N9; (try dsimp only); (try k_fold))
  k_with "mycall" => (k_here; (with_reducible show wpAny _ _ (call (Value.ref 83) _) _ _ _); k_dflt (refine useInt (by k_asm) (by k_asm) (by k_asm) (by k_asm) (by k_asm) (by (first | exact rfl | assumption)) (by ktr_room) (by ktr_units) (rfloor_c _ _ _ _ _ (by k_mem) (by (first | assumption | omega | k_extra "side")) (by (first | assumption | omega | k_extra "side"))) ?_); intro t9 h9 tk9 F9 N9; (try dsimp only); (try k_fold))
  k_with "mycall" => (k_here; (with_reducible show wpAny _ _ (call (Value.ref 90) _) _ _ _); k_dflt (refine useInts (by k_asm) (by k_asm) (by k_asm) (by k_asm) (by k_asm) (by (first | exact rfl | assumption)) (by ktr_room) (by ktr_units) (frow_c _ _ _ _ _ (by k_mem) (by (first | assumption | k_extra "frow")) (by omega)) ?_); intro b9 n9 w9 h9 tk9 I9 F9 N9 l9; (try simp only [AllLt, and_true] at l9); (try dsimp only); (try k_fold))
  k_with "mycall" => (k_here; (with_reducible show wpAny _ _ (call (Value.ref 97) _) _ _ _); k_dflt (refine usePairs (by k_asm) (by k_asm) (by k_asm) (by k_asm) (by k_asm) (by (first | exact rfl | assumption)) (by ktr_room) (by ktr_units) (conv_c _ _ _ _ _ (by k_mem) (by assumption) (by (first | assumption | k_extra "conv")) (by (first | assumption | omega))) ?_); intro b9 n9 w9 tl9 h9 tk9 P9 F9 N9 l9 o9; (try simp only [AllLt, and_true] at l9); (try dsimp only); (try k_fold))
  k_dflt ktr_enter
  k_steps
  all_goals exact endRef2 hret (by k_asm) (by assumption) (by kcj_all) (by first | exact near1 (by assumption) (by assumption) | exact near2 (by assumption) (by assumption) | exact near3 (by assumption) (by assumption) | exact near4 (by assumption) (by assumption))
end
local macro_rules | `(tactic| walk_at "none 5") => `(tactic| skip)
local macro_rules | `(tactic| walk_at "none 6") => `(tactic| skip)

section
def closeZ (p q top bottom : Int) : Bool := decide (2 * bottom * absZ (top * q - p * bottom) < q)
set_option maxHeartbeats 4000000 in
theorem close_c (w : World) (mean : ExcName → Option Value) (mg mb : Str → Option Value) (news : Led) {x : Addr} {n : Nat} {t u t' u' : Tok} {p q top bottom : Int}
    (hx : (x, tupO [.int p t, .int q u] n) ∈ news) (hp : p.natAbs < 1073741824) (hq : q.natAbs < 1073741824) (hb : bottom.natAbs < 1073741824) :
    Claim w mean mg mb 160 2 16 news [.ref x, .int top t', .int bottom u'] (PBool (closeZ p q top bottom)) := by
  unfold Claim
  intro dp un gd cn scs a' ccd cl outer A₀ base h₀ L m s Q E B F X N T hk hd' hu hret
  refine wpAny_call ?_
  k_with_none
  w_top off
  k_with "mycall" => (k_here; (with_reducible show wpAny _ _ (call (Value.ref 41) _) _ _ _); k_dflt (refine useInt (by k_asm) (by k_asm) (by k_asm) (by k_asm) (by k_asm) (by (first | exact rfl | assumption)) (by ktr_room) (by ktr_units) (gcd_c _ _ _ _ _ _ _ _ _) ?_); intro t9 h9 tk9 F9 N9; (try dsimp only); (try k_fold))
  k_with "mycall" => (k_here; (with_reducible show wpAny _ _ (call (Value.ref 48) _) _ _ _); k_dflt (refine usePair (by k_asm) (by k_asm) (by k_asm) (by k_asm) (by k_asm) (by (first | exact rfl | assumption)) (by ktr_room) (by ktr_units) (rat_c _ _ _ _ _ _ _ _ _ (by (first | assumption | omega | k_extra "side")) (by (first | assumption | omega | k_extra "side"))) ?_); intro b9 n9 t9 u9 h9 tk9 F9 N9 l9; (try simp only [AllLt, and_true] at l9); (try dsimp only); (try k_fold))
  k_with "mycall" => (k_here; (with_reducible show wpAny _ _ (call (Value.ref 55) _) _ _ _); k_dflt (refine usePair (by k_asm) (by k_asm) (by k_asm) (by k_asm) (by k_asm) (by (first | exact rfl | assumption)) (by ktr_room) (by ktr_units) (rsub_c _ _ _ _ _ (by k_mem) (by k_mem) (by (first | assumption | omega | k_extra "side")) (by (first | assumption | omega | k_extra "side")) (by (first | assumption | omega | k_extra "side")) (by (first | assumption | omega | k_extra "side")) (by (first | assumption | omega | k_extra "side"))) ?_); intro b9 n9 t9 u9 h9 tk9 F9 N9 l9; (try simp only [AllLt, and_true] at l9); (try dsimp only); (try k_fold))
  k_with "mycall" => (k_here; (with_reducible show wpAny _ _ (call (Value.ref 62) _) _ _ _); k_dflt (refine usePair (by k_asm) (by k_asm) (by k_asm) (by k_asm) (by k_asm) (by (first | exact rfl | assumption)) (by ktr_room) (by ktr_units) (rneg_c _ _ _ _ _ (by k_mem)) ?_); intro b9 n9 t9 u9 h9 tk9 F9 N9 l9; (try simp only [AllLt, and_true] at l9); (try dsimp only); (try k_fold))
  k_with "mycall" => (k_here; (with_reducible show wpAny _ _ (call (Value.ref 69) _) _ _ _); k_dflt (refine usePair (by k_asm) (by k_asm) (by k_asm) (by k_asm) (by k_asm) (by (first | exact rfl | assumption)) (by ktr_room) (by ktr_units) (rinv_c _ _ _ _ _ (by k_mem) (by (first | assumption | omega | k_extra "side")) (by (first | assumption | omega | k_extra "side"))) ?_); intro b9 n9 t9 u9 h9 tk9 F9 N9 l9; (try simp only [AllLt, and_true] at l9); (try dsimp only); (try k_fold))
  k_with "mycall" => (k_here; (with_reducible show wpAny _ _ (call (Value.ref 76) _) _ _ _); k_dflt (refine useInt (by k_asm) (by k_asm) (by k_asm) (by k_asm) (by k_asm) (by (first | exact rfl | assumption)) (by ktr_room) (by ktr_units) (rcompare_c _ _ _ _ _ (by k_mem) (by k_mem) (by (first | assumption | omega | k_extra "side")) (by (first | assumption | omega | k_extra "side"))) ?_); intro t9 h9 tk9 F9 N9; (try dsimp only); (try k_fold))
  k_with "mycall" => (k_here; (with_reducible show wpAny _ _ (call (Value.ref 83) _) _ _ _); k_dflt (refine useInt (by k_asm) (by k_asm) (by k_asm) (by k_asm) (by k_asm) (by (first | exact rfl | assumption)) (by ktr_room) (by ktr_units) (rfloor_c _ _ _ _ _ (by k_mem) (by (first | assumption | omega | k_extra "side")) (by (first | assumption | omega | k_extra "side"))) ?_); intro t9 h9 tk9 F9 N9; (try dsimp only); (try k_fold))
  k_with "mycall" => (k_here; (with_reducible show wpAny _ _ (call (Value.ref 90) _) _ _ _); k_dflt (refine useInts (by k_asm) (by k_asm) (by k_asm) (by k_asm) (by k_asm) (by (first | exact rfl | assumption)) (by ktr_room) (by ktr_units) (frow_c _ _ _ _ _ (by k_mem) (by (first | assumption | k_extra "frow")) (by omega)) ?_); intro b9 n9 w9 h9 tk9 I9 F9 N9 l9; (try simp only [AllLt, and_true] at l9); (try dsimp only); (try k_fold))
  k_with "mycall" => (k_here; (with_reducible show wpAny _ _ (call (Value.ref 97) _) _ _ _); k_dflt (refine usePairs (by k_asm) (by k_asm) (by k_asm) (by k_asm) (by k_asm) (by (first | exact rfl | assumption)) (by ktr_room) (by ktr_units) (conv_c _ _ _ _ _ (by k_mem) (by assumption) (by (first | assumption | k_extra "conv")) (by (first | assumption | omega))) ?_); intro b9 n9 w9 tl9 h9 tk9 P9 F9 N9 l9 o9; (try simp only [AllLt, and_true] at l9); (try dsimp only); (try k_fold))
  k_with "mycall" => (k_here; (with_reducible show wpAny _ _ (call (Value.ref 111) _) _ _ _); k_dflt (refine useRef2f (by k_asm) (by k_asm) (by k_asm) (by k_asm) (by k_asm) (by (first | exact rfl | assumption)) (by ktr_room) (by ktr_units) (near_c _ _ _ _ _ (by k_mem) (by k_mem) (by k_mem) (by (first | assumption | k_extra "near" | omega)) (by (first | assumption | k_extra "near" | omega)) (by (first | assumption | k_extra "near" | omega)) (by (first | assumption | k_extra "near" | omega)) (by (first | assumption | k_extra "near" | omega)) (by (first | assumption | k_extra "near" | omega)) (by (first | assumption | k_extra "near" | omega)) (by (first | assumption | k_extra "near" | omega)) (by (first | assumption | k_extra "near" | omega)) (by (first | assumption | k_extra "near" | omega))) (by k_extra "nearF") ?_); intro h9 tk9 F9 N9; (try dsimp only); (try k_fold))
  k_with "mycall" => (k_here; (with_reducible show wpAny _ _ (call (Value.ref 111) _) _ _ _); k_dflt (refine useRef2t (by k_asm) (by k_asm) (by k_asm) (by k_asm) (by k_asm) (by (first | exact rfl | assumption)) (by ktr_room) (by ktr_units) (near_c _ _ _ _ _ (by k_mem) (by k_mem) (by k_mem) (by (first | assumption | k_extra "near" | omega)) (by (first | assumption | k_extra "near" | omega)) (by (first | assumption | k_extra "near" | omega)) (by (first | assumption | k_extra "near" | omega)) (by (first | assumption | k_extra "near" | omega)) (by (first | assumption | k_extra "near" | omega)) (by (first | assumption | k_extra "near" | omega)) (by (first | assumption | k_extra "near" | omega)) (by (first | assumption | k_extra "near" | omega)) (by (first | assumption | k_extra "near" | omega))) (by k_extra "nearT") ?_); intro h9 tk9 F9 N9; (try dsimp only); (try k_fold))
  k_dflt ktr_enter
  k_steps
  all_goals exact endBool hret (by k_asm) (by assumption) (by kcj_all) rfl

def settledZ : List Int → List Int
  | [a, b] => if b = 1 then [a + 1] else [a, b]
  | [a, b, c] => if c = 1 then [a, b + 1] else [a, b, c]
  | [a, b, c, d] => if d = 1 then [a, b, c + 1] else [a, b, c, d]
  | [a, b, c, d, e] => if e = 1 then [a, b, c, d + 1] else [a, b, c, d, e]
  | [a, b, c, d, e, f] => if f = 1 then [a, b, c, d, e + 1] else [a, b, c, d, e, f]
  | [a, b, c, d, e, f, g] => if g = 1 then [a, b, c, d, e, f + 1] else [a, b, c, d, e, f, g]
  | [a, b, c, d, e, f, g, i] => if i = 1 then [a, b, c, d, e, f, g + 1] else [a, b, c, d, e, f, g, i]
  | ns => ns
theorem settled_hit : ∀ {ns : List Int}, ns.length ≤ 8 → 1 < ns.length → ns.getD (-1 + (ns.length : Int)).toNat 0 = 1 → ns.take (ns.length - 2) ++ [ns.getD (-2 + (ns.length : Int)).toNat 0 + 1] = settledZ ns
  | [], _, h, _ => absurd h (by simp)
  | [_], _, h, _ => absurd h (by simp)
  | [a, b], _, _, h => (if_pos (show b = 1 from h)).symm
  | [a, b, c], _, _, h => (if_pos (show c = 1 from h)).symm
  | [a, b, c, d], _, _, h => (if_pos (show d = 1 from h)).symm
  | [a, b, c, d, e], _, _, h => (if_pos (show e = 1 from h)).symm
  | [a, b, c, d, e, f], _, _, h => (if_pos (show f = 1 from h)).symm
  | [a, b, c, d, e, f, g], _, _, h => (if_pos (show g = 1 from h)).symm
  | [a, b, c, d, e, f, g, i], _, _, h => (if_pos (show i = 1 from h)).symm
  | _ :: _ :: _ :: _ :: _ :: _ :: _ :: _ :: _ :: _, h, _, _ => absurd h (by simp only [List.length_cons]; omega)
theorem settled_miss : ∀ {ns : List Int}, ns.length ≤ 8 → ns.getD (-1 + (ns.length : Int)).toNat 0 ≠ 1 → ns = settledZ ns
  | [], _, _ => rfl
  | [_], _, _ => rfl
  | [_, b], _, h => (if_neg (show ¬ b = 1 from h)).symm
  | [_, _, c], _, h => (if_neg (show ¬ c = 1 from h)).symm
  | [_, _, _, d], _, h => (if_neg (show ¬ d = 1 from h)).symm
  | [_, _, _, _, e], _, h => (if_neg (show ¬ e = 1 from h)).symm
  | [_, _, _, _, _, f], _, h => (if_neg (show ¬ f = 1 from h)).symm
  | [_, _, _, _, _, _, g], _, h => (if_neg (show ¬ g = 1 from h)).symm
  | [_, _, _, _, _, _, _, i], _, h => (if_neg (show ¬ i = 1 from h)).symm
  | _ :: _ :: _ :: _ :: _ :: _ :: _ :: _ :: _ :: _, h, _ => absurd h (by simp only [List.length_cons]; omega)
theorem settled_one : ∀ {ns : List Int}, ns ≠ [] → ¬ (1 : Int) < (ns.length : Int) → ns = settledZ ns
  | [], h, _ => absurd rfl h
  | [_], _, _ => rfl
  | _ :: _ :: _, _, h => absurd (by simp only [List.length_cons]; omega) h
set_option maxHeartbeats 4000000 in
theorem settled_c (w : World) (mean : ExcName → Option Value) (mg mb : Str → Option Value) (news : Led) {x : Addr} {n : Nat} {ws : List Value} {ns : List Int}
    (hx : (x, listOf ws.toArray n) ∈ news) (hi : IntsAre ws ns) (hn : ns ≠ []) (hln : ns.length ≤ 8) :
    Claim w mean mg mb 125 2 16 news [.ref x] (PList news (settledZ ns)) := by
  unfold Claim
  intro dp un gd cn scs a' ccd cl outer A₀ base h₀ L m s Q E B F X N T hk hd' hu hret
  have N2 := newsDup N hx
  clear N
  have hn0 : 0 < ns.length := List.length_pos_iff.mpr hn
  have hws := hi.length
  refine wpAny_call ?_
  k_with_none
  w_top off
  k_with "mycall" => (k_here; (with_reducible show wpAny _ _ (call (Value.ref 41) _) _ _ _); k_dflt (refine useInt (by k_asm) (by k_asm) (by k_asm) (by k_asm) (by k_asm) (by (first | exact rfl | assumption)) (by ktr_room) (by ktr_units) (gcd_c _ _ _ _ _ _ _ _ _) ?_); intro t9 h9 tk9 F9 N9; (try dsimp only); (try k_fold))
  k_with "mycall" => (k_here; (with_reducible show wpAny _ _ (call (Value.ref 48) _) _ _ _); k_dflt (refine usePair (by k_asm) (by k_asm) (by k_asm) (by k_asm) (by k_asm) (by (first | exact rfl | assumption)) (by ktr_room) (by ktr_units) (rat_c _ _ _ _ _ _ _ _ _ (by (first | assumption | omega | k_extra "side")) (by (first | assumption | omega | k_extra "side"))) ?_); intro b9 n9 t9 u9 h9 tk9 F9 N9 l9; (try simp only [AllLt, and_true] at l9); (try dsimp only); (try k_fold))
  k_with "mycall" => (k_here; (with_reducible show wpAny _ _ (call (Value.ref 55) _) _ _ _); k_dflt (refine usePair (by k_asm) (by k_asm) (by k_asm) (by k_asm) (by k_asm) (by (first | exact rfl | assumption)) (by ktr_room) (by ktr_units) (rsub_c _ _ _ _ _ (by k_mem) (by k_mem) (by (first | assumption | omega | k_extra "side")) (by (first | assumption | omega | k_extra "side")) (by (first | assumption | omega | k_extra "side")) (by (first | assumption | omega | k_extra "side")) (by (first | assumption | omega | k_extra "side"))) ?_); intro b9 n9 t9 u9 h9 tk9 F9 N9 l9; (try simp only [AllLt, and_true] at l9); (try dsimp only); (try k_fold))
  k_with "mycall" => (k_here; (with_reducible show wpAny _ _ (call (Value.ref 62) _) _ _ _); k_dflt (refine usePair (by k_asm) (by k_asm) (by k_asm) (by k_asm) (by k_asm) (by (first | exact rfl | assumption)) (by ktr_room) (by ktr_units) (rneg_c _ _ _ _ _ (by k_mem)) ?_); intro b9 n9 t9 u9 h9 tk9 F9 N9 l9; (try simp only [AllLt, and_true] at l9); (try dsimp only); (try k_fold))
  k_with "mycall" => (k_here; (with_reducible show wpAny _ _ (call (Value.ref 69) _) _ _ _); k_dflt (refine usePair (by k_asm) (by k_asm) (by k_asm) (by k_asm) (by k_asm) (by (first | exact rfl | assumption)) (by ktr_room) (by ktr_units) (rinv_c _ _ _ _ _ (by k_mem) (by (first | assumption | omega | k_extra "side")) (by (first | assumption | omega | k_extra "side"))) ?_); intro b9 n9 t9 u9 h9 tk9 F9 N9 l9; (try simp only [AllLt, and_true] at l9); (try dsimp only); (try k_fold))
  k_with "mycall" => (k_here; (with_reducible show wpAny _ _ (call (Value.ref 76) _) _ _ _); k_dflt (refine useInt (by k_asm) (by k_asm) (by k_asm) (by k_asm) (by k_asm) (by (first | exact rfl | assumption)) (by ktr_room) (by ktr_units) (rcompare_c _ _ _ _ _ (by k_mem) (by k_mem) (by (first | assumption | omega | k_extra "side")) (by (first | assumption | omega | k_extra "side"))) ?_); intro t9 h9 tk9 F9 N9; (try dsimp only); (try k_fold))
  k_with "mycall" => (k_here; (with_reducible show wpAny _ _ (call (Value.ref 83) _) _ _ _); k_dflt (refine useInt (by k_asm) (by k_asm) (by k_asm) (by k_asm) (by k_asm) (by (first | exact rfl | assumption)) (by ktr_room) (by ktr_units) (rfloor_c _ _ _ _ _ (by k_mem) (by (first | assumption | omega | k_extra "side")) (by (first | assumption | omega | k_extra "side"))) ?_); intro t9 h9 tk9 F9 N9; (try dsimp only); (try k_fold))
  k_with "mycall" => (k_here; (with_reducible show wpAny _ _ (call (Value.ref 90) _) _ _ _); k_dflt (refine useInts (by k_asm) (by k_asm) (by k_asm) (by k_asm) (by k_asm) (by (first | exact rfl | assumption)) (by ktr_room) (by ktr_units) (frow_c _ _ _ _ _ (by k_mem) (by (first | assumption | k_extra "frow")) (by omega)) ?_); intro b9 n9 w9 h9 tk9 I9 F9 N9 l9; (try simp only [AllLt, and_true] at l9); (try dsimp only); (try k_fold))
  k_with "mycall" => (k_here; (with_reducible show wpAny _ _ (call (Value.ref 97) _) _ _ _); k_dflt (refine usePairs (by k_asm) (by k_asm) (by k_asm) (by k_asm) (by k_asm) (by (first | exact rfl | assumption)) (by ktr_room) (by ktr_units) (conv_c _ _ _ _ _ (by k_mem) (by assumption) (by (first | assumption | k_extra "conv")) (by (first | assumption | omega))) ?_); intro b9 n9 w9 tl9 h9 tk9 P9 F9 N9 l9 o9; (try simp only [AllLt, and_true] at l9); (try dsimp only); (try k_fold))
  k_with "mycall" => (k_here; (with_reducible show wpAny _ _ (call (Value.ref 111) _) _ _ _); k_dflt (refine useRef2f (by k_asm) (by k_asm) (by k_asm) (by k_asm) (by k_asm) (by (first | exact rfl | assumption)) (by ktr_room) (by ktr_units) (near_c _ _ _ _ _ (by k_mem) (by k_mem) (by k_mem) (by (first | assumption | k_extra "near" | omega)) (by (first | assumption | k_extra "near" | omega)) (by (first | assumption | k_extra "near" | omega)) (by (first | assumption | k_extra "near" | omega)) (by (first | assumption | k_extra "near" | omega)) (by (first | assumption | k_extra "near" | omega)) (by (first | assumption | k_extra "near" | omega)) (by (first | assumption | k_extra "near" | omega)) (by (first | assumption | k_extra "near" | omega)) (by (first | assumption | k_extra "near" | omega))) (by k_extra "nearF") ?_); intro h9 tk9 F9 N9; (try dsimp only); (try k_fold))
  k_with "mycall" => (k_here; (with_reducible show wpAny _ _ (call (Value.ref 111) _) _ _ _); k_dflt (refine useRef2t (by k_asm) (by k_asm) (by k_asm) (by k_asm) (by k_asm) (by (first | exact rfl | assumption)) (by ktr_room) (by ktr_units) (near_c _ _ _ _ _ (by k_mem) (by k_mem) (by k_mem) (by (first | assumption | k_extra "near" | omega)) (by (first | assumption | k_extra "near" | omega)) (by (first | assumption | k_extra "near" | omega)) (by (first | assumption | k_extra "near" | omega)) (by (first | assumption | k_extra "near" | omega)) (by (first | assumption | k_extra "near" | omega)) (by (first | assumption | k_extra "near" | omega)) (by (first | assumption | k_extra "near" | omega)) (by (first | assumption | k_extra "near" | omega)) (by (first | assumption | k_extra "near" | omega))) (by k_extra "nearT") ?_); intro h9 tk9 F9 N9; (try dsimp only); (try k_fold))
  k_dflt ktr_enter
  k_steps
  · exact endListNew hret (by k_asm) (by assumption) (by k_mem) (by kcj_all) (by first | assumption | exact allLt_of (by assumption) | exact And.right (by assumption) | exact And.right (And.right (by assumption)) | exact And.right (And.right (And.right (by assumption)))) (by assumption) (settled_hit hln (Int.ofNat_lt.mp (by assumption)) (by assumption))
  · exact endListOld hret (by k_asm) (by assumption) (by kcj_all) hx hi (settled_miss hln (by assumption))
  · exact endListOld hret (by k_asm) (by assumption) (by kcj_all) hx hi (settled_one hn (by assumption))
end

section
def minusZ : List Int → List Int
  | [] => []
  | [a] => [0 - a]
  | a :: b :: r => if b = 1 then (match r with | [] => [] | c :: r' => [0 - a - 1, c + 1] ++ r') else settledZ ([0 - a - 1, 1, b - 1] ++ r)
theorem minus1 {a b c : Int} {r : List Int} (h : b = 1) : [0 - a - 1, c + 1] ++ r = minusZ (a :: b :: c :: r) := by simp [minusZ, h]
theorem minus2 {a b : Int} {r : List Int} (h : b ≠ 1) : settledZ ([0 - a - 1, 1, b - 1] ++ r) = minusZ (a :: b :: r) := by cases r <;> simp [minusZ, h]
theorem minus_one : ∀ {ns : List Int}, (ns.length : Int) = 1 → [0 - ns.getD (Int.toNat 0) 0] = minusZ ns
  | [], h => absurd h (by simp)
  | [_], _ => rfl
  | _ :: _ :: _, h => absurd h (by simp only [List.length_cons]; omega)
theorem minus_two : ∀ {ns : List Int}, 2 < ns.length → ns.getD (Int.toNat 1) 0 = 1 → [0 - ns.getD (Int.toNat 0) 0 - 1, ns.getD (Int.toNat 2) 0 + 1] ++ ns.drop 3 = minusZ ns
  | [], h, _ => absurd h (by simp)
  | [_], h, _ => absurd h (by simp)
  | [_, _], h, _ => absurd h (by simp)
  | _ :: b :: _ :: _, _, h => minus1 (show b = 1 from h)
theorem minus_three : ∀ {ns : List Int}, 1 < ns.length → ns.getD (Int.toNat 1) 0 ≠ 1 → settledZ ([0 - ns.getD (Int.toNat 0) 0 - 1, 1, ns.getD (Int.toNat 1) 0 - 1] ++ ns.drop 2) = minusZ ns
  | [], h, _ => absurd h (by simp)
  | [_], h, _ => absurd h (by simp)
  | _ :: b :: _, _, h => minus2 (show b ≠ 1 from h)
theorem minus_len : ∀ {ns : List Int}, (ns.length = 2 → ns[1]? ≠ some 1) → 1 < ns.length → ns.getD (Int.toNat 1) 0 = 1 → 2 < ns.length
  | [], _, h, _ => absurd h (by simp)
  | [_], _, h, _ => absurd h (by simp)
  | [_, b], h2, _, h1 => absurd (congrArg some (show b = 1 from h1)) (h2 rfl)
  | _ :: _ :: _ :: _, _, _, _ => by simp only [List.length_cons]; omega
set_option maxHeartbeats 8000000 in
theorem minus_c (w : World) (mean : ExcName → Option Value) (mg mb : Str → Option Value) (news : Led) {x : Addr} {n : Nat} {ws : List Value} {ns : List Int}
    (hx : (x, listOf ws.toArray n) ∈ news) (hi : IntsAre ws ns) (hn : ns ≠ []) (hln : ns.length ≤ 7) (h2 : ns.length = 2 → ns[1]? ≠ some 1) :
    Claim w mean mg mb 132 3 24 news [.ref x] (PList news (minusZ ns)) := by
  unfold Claim
  intro dp un gd cn scs a' ccd cl outer A₀ base h₀ L m s Q E B F X N T hk hd' hu hret
  have N2 := newsDup N hx
  clear N
  have hn0 : 0 < ns.length := List.length_pos_iff.mpr hn
  have hws := hi.length
  refine wpAny_call ?_
  k_with_none
  w_top off
  k_with "mycall" => (k_here; (with_reducible show wpAny _ _ (call (Value.ref 41) _) _ _ _); k_dflt (refine useInt (by k_asm) (by k_asm) (by k_asm) (by k_asm) (by k_asm) (by (first | exact rfl | assumption)) (by ktr_room) (by ktr_units) (gcd_c _ _ _ _ _ _ _ _ _) ?_); intro t9 h9 tk9 F9 N9; (try dsimp only); (try k_fold))
  k_with "mycall" => (k_here; (with_reducible show wpAny _ _ (call (Value.ref 48) _) _ _ _); k_dflt (refine usePair (by k_asm) (by k_asm) (by k_asm) (by k_asm) (by k_asm) (by (first | exact rfl | assumption)) (by ktr_room) (by ktr_units) (rat_c _ _ _ _ _ _ _ _ _ (by (first | assumption | omega | k_extra "side")) (by (first | assumption | omega | k_extra "side"))) ?_); intro b9 n9 t9 u9 h9 tk9 F9 N9 l9; (try simp only [AllLt, and_true] at l9); (try dsimp only); (try k_fold))
  k_with "mycall" => (k_here; (with_reducible show wpAny _ _ (call (Value.ref 55) _) _ _ _); k_dflt (refine usePair (by k_asm) (by k_asm) (by k_asm) (by k_asm) (by k_asm) (by (first | exact rfl | assumption)) (by ktr_room) (by ktr_units) (rsub_c _ _ _ _ _ (by k_mem) (by k_mem) (by (first | assumption | omega | k_extra "side")) (by (first | assumption | omega | k_extra "side")) (by (first | assumption | omega | k_extra "side")) (by (first | assumption | omega | k_extra "side")) (by (first | assumption | omega | k_extra "side"))) ?_); intro b9 n9 t9 u9 h9 tk9 F9 N9 l9; (try simp only [AllLt, and_true] at l9); (try dsimp only); (try k_fold))
  k_with "mycall" => (k_here; (with_reducible show wpAny _ _ (call (Value.ref 62) _) _ _ _); k_dflt (refine usePair (by k_asm) (by k_asm) (by k_asm) (by k_asm) (by k_asm) (by (first | exact rfl | assumption)) (by ktr_room) (by ktr_units) (rneg_c _ _ _ _ _ (by k_mem)) ?_); intro b9 n9 t9 u9 h9 tk9 F9 N9 l9; (try simp only [AllLt, and_true] at l9); (try dsimp only); (try k_fold))
  k_with "mycall" => (k_here; (with_reducible show wpAny _ _ (call (Value.ref 69) _) _ _ _); k_dflt (refine usePair (by k_asm) (by k_asm) (by k_asm) (by k_asm) (by k_asm) (by (first | exact rfl | assumption)) (by ktr_room) (by ktr_units) (rinv_c _ _ _ _ _ (by k_mem) (by (first | assumption | omega | k_extra "side")) (by (first | assumption | omega | k_extra "side"))) ?_); intro b9 n9 t9 u9 h9 tk9 F9 N9 l9; (try simp only [AllLt, and_true] at l9); (try dsimp only); (try k_fold))
  k_with "mycall" => (k_here; (with_reducible show wpAny _ _ (call (Value.ref 76) _) _ _ _); k_dflt (refine useInt (by k_asm) (by k_asm) (by k_asm) (by k_asm) (by k_asm) (by (first | exact rfl | assumption)) (by ktr_room) (by ktr_units) (rcompare_c _ _ _ _ _ (by k_mem) (by k_mem) (by (first | assumption | omega | k_extra "side")) (by (first | assumption | omega | k_extra "side"))) ?_); intro t9 h9 tk9 F9 N9; (try dsimp only); (try k_fold))
  k_with "mycall" => (k_here; (with_reducible show wpAny _ _ (call (Value.ref 83) _) _ _ _); k_dflt (refine useInt (by k_asm) (by k_asm) (by k_asm) (by k_asm) (by k_asm) (by (first | exact rfl | assumption)) (by ktr_room) (by ktr_units) (rfloor_c _ _ _ _ _ (by k_mem) (by (first | assumption | omega | k_extra "side")) (by (first | assumption | omega | k_extra "side"))) ?_); intro t9 h9 tk9 F9 N9; (try dsimp only); (try k_fold))
  k_with "mycall" => (k_here; (with_reducible show wpAny _ _ (call (Value.ref 90) _) _ _ _); k_dflt (refine useInts (by k_asm) (by k_asm) (by k_asm) (by k_asm) (by k_asm) (by (first | exact rfl | assumption)) (by ktr_room) (by ktr_units) (frow_c _ _ _ _ _ (by k_mem) (by (first | assumption | k_extra "frow")) (by omega)) ?_); intro b9 n9 w9 h9 tk9 I9 F9 N9 l9; (try simp only [AllLt, and_true] at l9); (try dsimp only); (try k_fold))
  k_with "mycall" => (k_here; (with_reducible show wpAny _ _ (call (Value.ref 97) _) _ _ _); k_dflt (refine usePairs (by k_asm) (by k_asm) (by k_asm) (by k_asm) (by k_asm) (by (first | exact rfl | assumption)) (by ktr_room) (by ktr_units) (conv_c _ _ _ _ _ (by k_mem) (by assumption) (by (first | assumption | k_extra "conv")) (by (first | assumption | omega))) ?_); intro b9 n9 w9 tl9 h9 tk9 P9 F9 N9 l9 o9; (try simp only [AllLt, and_true] at l9); (try dsimp only); (try k_fold))
  k_with "mycall" => (k_here; (with_reducible show wpAny _ _ (call (Value.ref 111) _) _ _ _); k_dflt (refine useRef2f (by k_asm) (by k_asm) (by k_asm) (by k_asm) (by k_asm) (by (first | exact rfl | assumption)) (by ktr_room) (by ktr_units) (near_c _ _ _ _ _ (by k_mem) (by k_mem) (by k_mem) (by (first | assumption | k_extra "near" | omega)) (by (first | assumption | k_extra "near" | omega)) (by (first | assumption | k_extra "near" | omega)) (by (first | assumption | k_extra "near" | omega)) (by (first | assumption | k_extra "near" | omega)) (by (first | assumption | k_extra "near" | omega)) (by (first | assumption | k_extra "near" | omega)) (by (first | assumption | k_extra "near" | omega)) (by (first | assumption | k_extra "near" | omega)) (by (first | assumption | k_extra "near" | omega))) (by k_extra "nearF") ?_); intro h9 tk9 F9 N9; (try dsimp only); (try k_fold))
  k_with "mycall" => (k_here; (with_reducible show wpAny _ _ (call (Value.ref 111) _) _ _ _); k_dflt (refine useRef2t (by k_asm) (by k_asm) (by k_asm) (by k_asm) (by k_asm) (by (first | exact rfl | assumption)) (by ktr_room) (by ktr_units) (near_c _ _ _ _ _ (by k_mem) (by k_mem) (by k_mem) (by (first | assumption | k_extra "near" | omega)) (by (first | assumption | k_extra "near" | omega)) (by (first | assumption | k_extra "near" | omega)) (by (first | assumption | k_extra "near" | omega)) (by (first | assumption | k_extra "near" | omega)) (by (first | assumption | k_extra "near" | omega)) (by (first | assumption | k_extra "near" | omega)) (by (first | assumption | k_extra "near" | omega)) (by (first | assumption | k_extra "near" | omega)) (by (first | assumption | k_extra "near" | omega))) (by k_extra "nearT") ?_); intro h9 tk9 F9 N9; (try dsimp only); (try k_fold))
  k_with "mycall" => (k_here; (with_reducible show wpAny _ _ (call (Value.ref 160) _) _ _ _); k_dflt (refine useBool (by k_asm) (by k_asm) (by k_asm) (by k_asm) (by k_asm) (by (first | exact rfl | assumption)) (by ktr_room) (by ktr_units) (close_c _ _ _ _ _ (by k_mem) (by (first | assumption | omega | k_extra "side")) (by (first | assumption | omega | k_extra "side")) (by (first | assumption | omega | k_extra "side"))) ?_); intro h9 tk9 F9 N9; (try dsimp only); (try k_fold))
  k_with "mycall" => (k_here; (with_reducible show wpAny _ _ (call (Value.ref 125) _) _ _ _); k_dflt (refine useList (by k_asm) (by k_asm) (by k_asm) (by k_asm) (by k_asm) (by (first | exact rfl | assumption)) (by ktr_room) (by ktr_units) (settled_c _ _ _ _ _ (by k_mem) (by (first | assumption | repeat constructor)) (by (first | assumption | k_extra "settled0" | (intro hNil; cases hNil))) (by (first | assumption | k_extra "settled1" | (simp only [List.length_cons, List.length_nil]; omega)))) ?_); intro b9 n9 w9 h9 tk9 I9 F9 N9 O9; (try dsimp only); (try k_fold))
  k_with "subscriptTail" => ((with_reducible show wpAny _ _ (subscriptTail _ _ (Value.ref _) (Value.int 2 _)) _ _ _); (fail_if_success (have h9 := h9)); (have h9 := minus_len h2 (by omega) (by assumption)))
  k_with "settled0" => k_dflt (exact List.cons_ne_nil _ _)
  k_with "settled1" => ((simp only [List.length_append, List.length_cons, List.length_nil, List.length_drop]); omega)
  k_dflt ktr_enter
  k_steps
  all_goals first
    | exact endListNew hret (by k_asm) (by assumption) (by k_mem) (by kcj_all) (by first | assumption | exact allLt_of (by assumption) | exact And.right (by assumption) | exact And.right (And.right (by assumption)) | exact And.right (And.right (And.right (by assumption)))) (by repeat constructor) (minus_one (by assumption))
    | exact endListNew hret (by k_asm) (by assumption) (by k_mem) (by kcj_all) (by first | assumption | exact allLt_of (by assumption) | exact And.right (by assumption) | exact And.right (And.right (by assumption)) | exact And.right (And.right (And.right (by assumption)))) (by assumption) (minus_two h9 (by assumption))
    | exact endListP hret (by k_asm) (by assumption) (by k_mem) (by kcj_all) (by assumption) (List.forall_mem_cons.mpr ⟨.inr (by first | assumption | exact allLt_of (by assumption) | exact And.right (by assumption) | exact And.right (And.right (by assumption)) | exact And.right (And.right (And.right (by assumption)))), List.forall_mem_cons.mpr ⟨.inr (by first | assumption | exact allLt_of (by assumption) | exact And.right (by assumption) | exact And.right (And.right (by assumption)) | exact And.right (And.right (And.right (by assumption)))), List.forall_mem_cons.mpr ⟨.inr (by first | assumption | exact allLt_of (by assumption) | exact And.right (by assumption) | exact And.right (And.right (by assumption)) | exact And.right (And.right (And.right (by assumption)))), List.forall_mem_cons.mpr ⟨.inl hx, fun _ h => .inl h⟩⟩⟩⟩) (by kcj_all) (by assumption) (minus_three (by omega) (by assumption))
end

section
def over0Z : List Int → List Int
  | [] => []
  | a :: r => if a = 0 then r else settledZ ([0] ++ (a :: r))
theorem over1 {a : Int} {r : List Int} (h : a = 0) : r = over0Z (a :: r) := by simp [over0Z, h]
theorem over2 {a : Int} {r : List Int} (h : a ≠ 0) : settledZ ([0] ++ (a :: r)) = over0Z (a :: r) := by simp [over0Z, h]
theorem over_zero : ∀ {ns : List Int}, ns ≠ [] → ns.getD (Int.toNat 0) 0 = 0 → ns.drop 1 = over0Z ns
  | [], h, _ => absurd rfl h
  | a :: _, _, h => over1 (show a = 0 from h)
theorem over_more : ∀ {ns : List Int}, ns ≠ [] → ns.getD (Int.toNat 0) 0 ≠ 0 → settledZ ([0] ++ ns) = over0Z ns
  | [], h, _ => absurd rfl h
  | a :: _, _, h => over2 (show a ≠ 0 from h)
set_option maxHeartbeats 8000000 in
theorem over0_c (w : World) (mean : ExcName → Option Value) (mg mb : Str → Option Value) (news : Led) {x : Addr} {n : Nat} {ws : List Value} {ns : List Int}
    (hx : (x, listOf ws.toArray n) ∈ news) (hi : IntsAre ws ns) (hn : ns ≠ []) (hln : ns.length ≤ 6) (h2 : 0 ≤ ns.getD 0 0) :
    Claim w mean mg mb 139 3 24 news [.ref x] (PList news (over0Z ns)) := by
  unfold Claim
  intro dp un gd cn scs a' ccd cl outer A₀ base h₀ L m s Q E B F X N T hk hd' hu hret
  have N2 := newsDup N hx
  clear N
  have hn0 : 0 < ns.length := List.length_pos_iff.mpr hn
  have hws := hi.length
  refine wpAny_call ?_
  k_with_none
  w_top off
  k_with "mycall" => (k_here; (with_reducible show wpAny _ _ (call (Value.ref 41) _) _ _ _); k_dflt (refine useInt (by k_asm) (by k_asm) (by k_asm) (by k_asm) (by k_asm) (by (first | exact rfl | assumption)) (by ktr_room) (by ktr_units) (gcd_c _ _ _ _ _ _ _ _ _) ?_); intro t9 h9 tk9 F9 N9; (try dsimp only); (try k_fold))
  k_with "mycall" => (k_here; (with_reducible show wpAny _ _ (call (Value.ref 48) _) _ _ _); k_dflt (refine usePair (by k_asm) (by k_asm) (by k_asm) (by k_asm) (by k_asm) (by (first | exact rfl | assumption)) (by ktr_room) (by ktr_units) (rat_c _ _ _ _ _ _ _ _ _ (by (first | assumption | omega | k_extra "side")) (by (first | assumption | omega | k_extra "side"))) ?_); intro b9 n9 t9 u9 h9 tk9 F9 N9 l9; (try simp only [AllLt, and_true] at l9); (try dsimp only); (try k_fold))
  k_with "mycall" => (k_here; (with_reducible show wpAny _ _ (call (Value.ref 55) _) _ _ _); k_dflt (refine usePair (by k_asm) (by k_asm) (by k_asm) (by k_asm) (by k_asm) (by (first | exact rfl | assumption)) (by ktr_room) (by ktr_units) (rsub_c _ _ _ _ _ (by k_mem) (by k_mem) (by (first | assumption | omega | k_extra "side")) (by (first | assumption | omega | k_extra "side")) (by (first | assumption | omega | k_extra "side")) (by (first | assumption | omega | k_extra "side")) (by (first | assumption | omega | k_extra "side"))) ?_); intro b9 n9 t9 u9 h9 tk9 F9 N9 l9; (try simp only [AllLt, and_true] at l9); (try dsimp only); (try k_fold))
  k_with "mycall" => (k_here; (with_reducible show wpAny _ _ (call (Value.ref 62) _) _ _ _); k_dflt (refine usePair (by k_asm) (by k_asm) (by k_asm) (by k_asm) (by k_asm) (by (first | exact rfl | assumption)) (by ktr_room) (by ktr_units) (rneg_c _ _ _ _ _ (by k_mem)) ?_); intro b9 n9 t9 u9 h9 tk9 F9 N9 l9; (try simp only [AllLt, and_true] at l9); (try dsimp only); (try k_fold))
  k_with "mycall" => (k_here; (with_reducible show wpAny _ _ (call (Value.ref 69) _) _ _ _); k_dflt (refine usePair (by k_asm) (by k_asm) (by k_asm) (by k_asm) (by k_asm) (by (first | exact rfl | assumption)) (by ktr_room) (by ktr_units) (rinv_c _ _ _ _ _ (by k_mem) (by (first | assumption | omega | k_extra "side")) (by (first | assumption | omega | k_extra "side"))) ?_); intro b9 n9 t9 u9 h9 tk9 F9 N9 l9; (try simp only [AllLt, and_true] at l9); (try dsimp only); (try k_fold))
  k_with "mycall" => (k_here; (with_reducible show wpAny _ _ (call (Value.ref 76) _) _ _ _); k_dflt (refine useInt (by k_asm) (by k_asm) (by k_asm) (by k_asm) (by k_asm) (by (first | exact rfl | assumption)) (by ktr_room) (by ktr_units) (rcompare_c _ _ _ _ _ (by k_mem) (by k_mem) (by (first | assumption | omega | k_extra "side")) (by (first | assumption | omega | k_extra "side"))) ?_); intro t9 h9 tk9 F9 N9; (try dsimp only); (try k_fold))
  k_with "mycall" => (k_here; (with_reducible show wpAny _ _ (call (Value.ref 83) _) _ _ _); k_dflt (refine useInt (by k_asm) (by k_asm) (by k_asm) (by k_asm) (by k_asm) (by (first | exact rfl | assumption)) (by ktr_room) (by ktr_units) (rfloor_c _ _ _ _ _ (by k_mem) (by (first | assumption | omega | k_extra "side")) (by (first | assumption | omega | k_extra "side"))) ?_); intro t9 h9 tk9 F9 N9; (try dsimp only); (try k_fold))
  k_with "mycall" => (k_here; (with_reducible show wpAny _ _ (call (Value.ref 90) _) _ _ _); k_dflt (refine useInts (by k_asm) (by k_asm) (by k_asm) (by k_asm) (by k_asm) (by (first | exact rfl | assumption)) (by ktr_room) (by ktr_units) (frow_c _ _ _ _ _ (by k_mem) (by (first | assumption | k_extra "frow")) (by omega)) ?_); intro b9 n9 w9 h9 tk9 I9 F9 N9 l9; (try simp only [AllLt, and_true] at l9); (try dsimp only); (try k_fold))
  k_with "mycall" => (k_here; (with_reducible show wpAny _ _ (call (Value.ref 97) _) _ _ _); k_dflt (refine usePairs (by k_asm) (by k_asm) (by k_asm) (by k_asm) (by k_asm) (by (first | exact rfl | assumption)) (by ktr_room) (by ktr_units) (conv_c _ _ _ _ _ (by k_mem) (by assumption) (by (first | assumption | k_extra "conv")) (by (first | assumption | omega))) ?_); intro b9 n9 w9 tl9 h9 tk9 P9 F9 N9 l9 o9; (try simp only [AllLt, and_true] at l9); (try dsimp only); (try k_fold))
  k_with "mycall" => (k_here; (with_reducible show wpAny _ _ (call (Value.ref 111) _) _ _ _); k_dflt (refine useRef2f (by k_asm) (by k_asm) (by k_asm) (by k_asm) (by k_asm) (by (first | exact rfl | assumption)) (by ktr_room) (by ktr_units) (near_c _ _ _ _ _ (by k_mem) (by k_mem) (by k_mem) (by (first | assumption | k_extra "near" | omega)) (by (first | assumption | k_extra "near" | omega)) (by (first | assumption | k_extra "near" | omega)) (by (first | assumption | k_extra "near" | omega)) (by (first | assumption | k_extra "near" | omega)) (by (first | assumption | k_extra "near" | omega)) (by (first | assumption | k_extra "near" | omega)) (by (first | assumption | k_extra "near" | omega)) (by (first | assumption | k_extra "near" | omega)) (by (first | assumption | k_extra "near" | omega))) (by k_extra "nearF") ?_); intro h9 tk9 F9 N9; (try dsimp only); (try k_fold))
  k_with "mycall" => (k_here; (with_reducible show wpAny _ _ (call (Value.ref 111) _) _ _ _); k_dflt (refine useRef2t (by k_asm) (by k_asm) (by k_asm) (by k_asm) (by k_asm) (by (first | exact rfl | assumption)) (by ktr_room) (by ktr_units) (near_c _ _ _ _ _ (by k_mem) (by k_mem) (by k_mem) (by (first | assumption | k_extra "near" | omega)) (by (first | assumption | k_extra "near" | omega)) (by (first | assumption | k_extra "near" | omega)) (by (first | assumption | k_extra "near" | omega)) (by (first | assumption | k_extra "near" | omega)) (by (first | assumption | k_extra "near" | omega)) (by (first | assumption | k_extra "near" | omega)) (by (first | assumption | k_extra "near" | omega)) (by (first | assumption | k_extra "near" | omega)) (by (first | assumption | k_extra "near" | omega))) (by k_extra "nearT") ?_); intro h9 tk9 F9 N9; (try dsimp only); (try k_fold))
  k_with "mycall" => (k_here; (with_reducible show wpAny _ _ (call (Value.ref 160) _) _ _ _); k_dflt (refine useBool (by k_asm) (by k_asm) (by k_asm) (by k_asm) (by k_asm) (by (first | exact rfl | assumption)) (by ktr_room) (by ktr_units) (close_c _ _ _ _ _ (by k_mem) (by (first | assumption | omega | k_extra "side")) (by (first | assumption | omega | k_extra "side")) (by (first | assumption | omega | k_extra "side"))) ?_); intro h9 tk9 F9 N9; (try dsimp only); (try k_fold))
  k_with "mycall" => (k_here; (with_reducible show wpAny _ _ (call (Value.ref 125) _) _ _ _); k_dflt (refine useList (by k_asm) (by k_asm) (by k_asm) (by k_asm) (by k_asm) (by (first | exact rfl | assumption)) (by ktr_room) (by ktr_units) (settled_c _ _ _ _ _ (by k_mem) (by (first | assumption | repeat constructor)) (by (first | assumption | k_extra "settled0" | (intro hNil; cases hNil))) (by (first | assumption | k_extra "settled1" | (simp only [List.length_cons, List.length_nil]; omega)))) ?_); intro b9 n9 w9 h9 tk9 I9 F9 N9 O9; (try dsimp only); (try k_fold))
  k_with "mycall" => (k_here; (with_reducible show wpAny _ _ (call (Value.ref 132) _) _ _ _); k_dflt (refine useList (by k_asm) (by k_asm) (by k_asm) (by k_asm) (by k_asm) (by (first | exact rfl | assumption)) (by ktr_room) (by ktr_units) (minus_c _ _ _ _ _ (by k_mem) (by assumption) (by (first | assumption | k_extra "minus")) (by (first | assumption | omega | k_extra "minus")) (by (first | assumption | k_extra "minus"))) ?_); intro b9 n9 w9 h9 tk9 I9 F9 N9 O9; (try dsimp only); (try k_fold))
  k_with "call ref" => exact ((Int.not_lt.mpr h2) (by assumption)).elim
  k_with "settled0" => k_dflt (exact List.cons_ne_nil _ _)
  k_with "settled1" => ((simp only [List.length_append, List.length_cons, List.length_nil, List.length_drop]); omega)
  k_dflt ktr_enter
  k_steps
  all_goals first
    | exact endListNew hret (by k_asm) (by assumption) (by k_mem) (by kcj_all) (by first | assumption | exact allLt_of (by assumption) | exact And.right (by assumption) | exact And.right (And.right (by assumption)) | exact And.right (And.right (And.right (by assumption)))) (by assumption) (over_zero hn (by assumption))
    | exact endListP hret (by k_asm) (by assumption) (by k_mem) (by kcj_all) (by assumption) (List.forall_mem_cons.mpr ⟨.inr (by first | assumption | exact allLt_of (by assumption) | exact And.right (by assumption) | exact And.right (And.right (by assumption)) | exact And.right (And.right (And.right (by assumption)))), List.forall_mem_cons.mpr ⟨.inr (by first | assumption | exact allLt_of (by assumption) | exact And.right (by assumption) | exact And.right (And.right (by assumption)) | exact And.right (And.right (And.right (by assumption)))), List.forall_mem_cons.mpr ⟨.inl hx, fun _ h => .inl h⟩⟩⟩) (by kcj_all) (by assumption) (over_more hn (by assumption))

def overZ : List Int → List Int
  | [] => []
  | a :: r => if a < 0 then minusZ (over0Z (minusZ (a :: r))) else over0Z (a :: r)
def minusOk (ns : List Int) : Bool := !ns.isEmpty && decide (ns.length ≤ 7) && !(ns.length == 2 && ns[1]? == some 1)
def overOk (ns : List Int) : Bool := match ns with
  | [] => false
  | a :: _ => decide (ns.length ≤ 6) && (!decide (a < 0) || (minusOk ns && !(minusZ ns).isEmpty && decide ((minusZ ns).length ≤ 6) && decide (0 ≤ (minusZ ns).getD 0 0) && minusOk (over0Z (minusZ ns))))
theorem minusOk_is {ns : List Int} (h : minusOk ns = true) : ns ≠ [] ∧ ns.length ≤ 7 ∧ (ns.length = 2 → ns[1]? ≠ some 1) := by
  unfold minusOk at h
  simp only [Bool.and_eq_true, Bool.not_eq_true', decide_eq_true_eq, Bool.and_eq_false_iff, beq_eq_false_iff_ne, ne_eq] at h
  refine ⟨fun e => (by rw [e] at h; simp at h), h.1.2, fun e => ?_⟩
  rcases h.2 with h | h
  · exact absurd e h
  · exact h

theorem goodOf {news Lg : Led} {e : Addr × Obj} (hb : e ∈ Lg ∨ AllLt e.1 Lg) (hL : ∀ e ∈ Lg, e ∈ news ∨ AllLt e.1 news) (hn : ∀ e ∈ news, e ∈ Lg) : e ∈ news ∨ AllLt e.1 news := by
  rcases hb with h | h
  · exact hL _ h
  · exact .inr (allLt_of fun q hq => ktn_ltOf h q (hn q hq))
theorem goodCons {news Lg : Led} {e : Addr × Obj} (h : e ∈ news ∨ AllLt e.1 news) (hL : ∀ e ∈ Lg, e ∈ news ∨ AllLt e.1 news) : ∀ x ∈ e :: Lg, x ∈ news ∨ AllLt x.1 news := List.forall_mem_cons.mpr ⟨h, hL⟩
theorem goodNil {news : Led} : ∀ x ∈ news, x ∈ news ∨ AllLt x.1 news := fun _ h => .inl h
local macro_rules | `(tactic| walk_at "call ref") => `(tactic| (k_here; (with_reducible show wpAny _ _ (call (Value.ref 139) _) _ _ _); k_dflt (refine useList (by k_asm) (by k_asm) (by k_asm) (by k_asm) (by k_asm) (by (first | exact rfl | assumption)) (by ktr_room) (by ktr_units) (over0_c _ _ _ _ _ (by k_mem) (by assumption) (by (first | assumption | k_extra "over")) (by (first | assumption | omega | k_extra "over")) (by (first | assumption | k_extra "over"))) ?_); intro b9 n9 w9 h9 tk9 I9 F9 N9 O9; (try dsimp only); (try k_fold)))
set_option maxHeartbeats 8000000 in
theorem over_c (w : World) (mean : ExcName → Option Value) (mg mb : Str → Option Value) (news : Led) {x : Addr} {n : Nat} {ws : List Value} {ns : List Int}
    (hx : (x, listOf ws.toArray n) ∈ news) (hi : IntsAre ws ns) (hok : overOk ns = true) :
    Claim w mean mg mb 139 6 48 news [.ref x] (PList news (overZ ns)) := by
  cases hi with
  | nil => cases hok
  | @cons a ta ws ns hi =>
  by_cases ha : 0 ≤ a
  · have e : overZ (a :: ns) = over0Z (a :: ns) := if_neg (Int.not_lt.mpr ha)
    rw [e]
    simp only [overOk, Bool.and_eq_true, decide_eq_true_eq] at hok
    intro dp un gd cn scs a' ccd cl outer A₀ base h₀ L m s Q E B F X N T hk hd' hu hret
    exact over0_c w mean mg mb news hx (.cons a ta hi) (List.cons_ne_nil _ _) hok.1 (by simpa using ha) dp un gd cn scs a' ccd cl outer A₀ base h₀ L m s Q E B F X N T hk (by omega) (by omega) hret
  · have e : overZ (a :: ns) = minusZ (over0Z (minusZ (a :: ns))) := if_pos (Int.not_le.mp ha)
    rw [e]
    have ha' : a < 0 := Int.not_le.mp ha
    simp only [overOk, Bool.and_eq_true, decide_eq_true_eq, ha', decide_true, Bool.not_true, Bool.false_or] at hok
    obtain ⟨_, ⟨⟨⟨h1, h2⟩, h3⟩, h4⟩, h5⟩ := hok
    obtain ⟨m1, m2, m3⟩ := minusOk_is h1
    obtain ⟨o1, o2, o3⟩ := minusOk_is h5
    have h2' : minusZ (a :: ns) ≠ [] := fun e => by rw [e] at h2; simp at h2
    have I0 := IntsAre.cons a ta hi
    unfold Claim
    intro dp un gd cn scs a' ccd cl outer A₀ base h₀ L m s Q E B F X N T hk hd' hu hret
    have N2 := newsDup N hx
    clear N
    refine wpAny_call ?_
    k_with_none
    w_top off
    k_with "mycall" => (k_here; (with_reducible show wpAny _ _ (call (Value.ref 41) _) _ _ _); k_dflt (refine useInt (by k_asm) (by k_asm) (by k_asm) (by k_asm) (by k_asm) (by (first | exact rfl | assumption)) (by ktr_room) (by ktr_units) (gcd_c _ _ _ _ _ _ _ _ _) ?_); intro t9 h9 tk9 F9 N9; (try dsimp only); (try k_fold))
    k_with "mycall" => (k_here; (with_reducible show wpAny _ _ (call (Value.ref 48) _) _ _ _); k_dflt (refine usePair (by k_asm) (by k_asm) (by k_asm) (by k_asm) (by k_asm) (by (first | exact rfl | assumption)) (by ktr_room) (by ktr_units) (rat_c _ _ _ _ _ _ _ _ _ (by (first | assumption | omega | k_extra "side")) (by (first | assumption | omega | k_extra "side"))) ?_); intro b9 n9 t9 u9 h9 tk9 F9 N9 l9; (try simp only [AllLt, and_true] at l9); (try dsimp only); (try k_fold))
    k_with "mycall" => (k_here; (with_reducible show wpAny _ _ (call (Value.ref 55) _) _ _ _); k_dflt (refine usePair (by k_asm) (by k_asm) (by k_asm) (by k_asm) (by k_asm) (by (first | exact rfl | assumption)) (by ktr_room) (by ktr_units) (rsub_c _ _ _ _ _ (by k_mem) (by k_mem) (by (first | assumption | omega | k_extra "side")) (by (first | assumption | omega | k_extra "side")) (by (first | assumption | omega | k_extra "side")) (by (first | assumption | omega | k_extra "side")) (by (first | assumption | omega | k_extra "side"))) ?_); intro b9 n9 t9 u9 h9 tk9 F9 N9 l9; (try simp only [AllLt, and_true] at l9); (try dsimp only); (try k_fold))
    k_with "mycall" => (k_here; (with_reducible show wpAny _ _ (call (Value.ref 62) _) _ _ _); k_dflt (refine usePair (by k_asm) (by k_asm) (by k_asm) (by k_asm) (by k_asm) (by (first | exact rfl | assumption)) (by ktr_room) (by ktr_units) (rneg_c _ _ _ _ _ (by k_mem)) ?_); intro b9 n9 t9 u9 h9 tk9 F9 N9 l9; (try simp only [AllLt, and_true] at l9); (try dsimp only); (try k_fold))
    k_with "mycall" => (k_here; (with_reducible show wpAny _ _ (call (Value.ref 69) _) _ _ _); k_dflt (refine usePair (by k_asm) (by k_asm) (by k_asm) (by k_asm) (by k_asm) (by (first | exact rfl | assumption)) (by ktr_room) (by ktr_units) (rinv_c _ _ _ _ _ (by k_mem) (by (first | assumption | omega | k_extra "side")) (by (first | assumption | omega | k_extra "side"))) ?_); intro b9 n9 t9 u9 h9 tk9 F9 N9 l9; (try simp only [AllLt, and_true] at l9); (try dsimp only); (try k_fold))
    k_with "mycall" => (k_here; (with_reducible show wpAny _ _ (call (Value.ref 76) _) _ _ _); k_dflt (refine useInt (by k_asm) (by k_asm) (by k_asm) (by k_asm) (by k_asm) (by (first | exact rfl | assumption)) (by ktr_room) (by ktr_units) (rcompare_c _ _ _ _ _ (by k_mem) (by k_mem) (by (first | assumption | omega | k_extra "side")) (by (first | assumption | omega | k_extra "side"))) ?_); intro t9 h9 tk9 F9 N9; (try dsimp only); (try k_fold))
    k_with "mycall" => (k_here; (with_reducible show wpAny _ _ (call (Value.ref 83) _) _ _ _); k_dflt (refine useInt (by k_asm) (by k_asm) (by k_asm) (by k_asm) (by k_asm) (by (first | exact rfl | assumption)) (by ktr_room) (by ktr_units) (rfloor_c _ _ _ _ _ (by k_mem) (by (first | assumption | omega | k_extra "side")) (by (first | assumption | omega | k_extra "side"))) ?_); intro t9 h9 tk9 F9 N9; (try dsimp only); (try k_fold))
    k_with "mycall" => (k_here; (with_reducible show wpAny _ _ (call (Value.ref 90) _) _ _ _); k_dflt (refine useInts (by k_asm) (by k_asm) (by k_asm) (by k_asm) (by k_asm) (by (first | exact rfl | assumption)) (by ktr_room) (by ktr_units) (frow_c _ _ _ _ _ (by k_mem) (by (first | assumption | k_extra "frow")) (by omega)) ?_); intro b9 n9 w9 h9 tk9 I9 F9 N9 l9; (try simp only [AllLt, and_true] at l9); (try dsimp only); (try k_fold))
    k_with "mycall" => (k_here; (with_reducible show wpAny _ _ (call (Value.ref 97) _) _ _ _); k_dflt (refine usePairs (by k_asm) (by k_asm) (by k_asm) (by k_asm) (by k_asm) (by (first | exact rfl | assumption)) (by ktr_room) (by ktr_units) (conv_c _ _ _ _ _ (by k_mem) (by assumption) (by (first | assumption | k_extra "conv")) (by (first | assumption | omega))) ?_); intro b9 n9 w9 tl9 h9 tk9 P9 F9 N9 l9 o9; (try simp only [AllLt, and_true] at l9); (try dsimp only); (try k_fold))
    k_with "mycall" => (k_here; (with_reducible show wpAny _ _ (call (Value.ref 111) _) _ _ _); k_dflt (refine useRef2f (by k_asm) (by k_asm) (by k_asm) (by k_asm) (by k_asm) (by (first | exact rfl | assumption)) (by ktr_room) (by ktr_units) (near_c _ _ _ _ _ (by k_mem) (by k_mem) (by k_mem) (by (first | assumption | k_extra "near" | omega)) (by (first | assumption | k_extra "near" | omega)) (by (first | assumption | k_extra "near" | omega)) (by (first | assumption | k_extra "near" | omega)) (by (first | assumption | k_extra "near" | omega)) (by (first | assumption | k_extra "near" | omega)) (by (first | assumption | k_extra "near" | omega)) (by (first | assumption | k_extra "near" | omega)) (by (first | assumption | k_extra "near" | omega)) (by (first | assumption | k_extra "near" | omega))) (by k_extra "nearF") ?_); intro h9 tk9 F9 N9; (try dsimp only); (try k_fold))
    k_with "mycall" => (k_here; (with_reducible show wpAny _ _ (call (Value.ref 111) _) _ _ _); k_dflt (refine useRef2t (by k_asm) (by k_asm) (by k_asm) (by k_asm) (by k_asm) (by (first | exact rfl | assumption)) (by ktr_room) (by ktr_units) (near_c _ _ _ _ _ (by k_mem) (by k_mem) (by k_mem) (by (first | assumption | k_extra "near" | omega)) (by (first | assumption | k_extra "near" | omega)) (by (first | assumption | k_extra "near" | omega)) (by (first | assumption | k_extra "near" | omega)) (by (first | assumption | k_extra "near" | omega)) (by (first | assumption | k_extra "near" | omega)) (by (first | assumption | k_extra "near" | omega)) (by (first | assumption | k_extra "near" | omega)) (by (first | assumption | k_extra "near" | omega)) (by (first | assumption | k_extra "near" | omega))) (by k_extra "nearT") ?_); intro h9 tk9 F9 N9; (try dsimp only); (try k_fold))
    k_with "mycall" => (k_here; (with_reducible show wpAny _ _ (call (Value.ref 160) _) _ _ _); k_dflt (refine useBool (by k_asm) (by k_asm) (by k_asm) (by k_asm) (by k_asm) (by (first | exact rfl | assumption)) (by ktr_room) (by ktr_units) (close_c _ _ _ _ _ (by k_mem) (by (first | assumption | omega | k_extra "side")) (by (first | assumption | omega | k_extra "side")) (by (first | assumption | omega | k_extra "side"))) ?_); intro h9 tk9 F9 N9; (try dsimp only); (try k_fold))
    k_with "mycall" => (k_here; (with_reducible show wpAny _ _ (call (Value.ref 125) _) _ _ _); k_dflt (refine useList (by k_asm) (by k_asm) (by k_asm) (by k_asm) (by k_asm) (by (first | exact rfl | assumption)) (by ktr_room) (by ktr_units) (settled_c _ _ _ _ _ (by k_mem) (by (first | assumption | repeat constructor)) (by (first | assumption | k_extra "settled0" | (intro hNil; cases hNil))) (by (first | assumption | k_extra "settled1" | (simp only [List.length_cons, List.length_nil]; omega)))) ?_); intro b9 n9 w9 h9 tk9 I9 F9 N9 O9; (try dsimp only); (try k_fold))
    k_with "mycall" => (k_here; (with_reducible show wpAny _ _ (call (Value.ref 132) _) _ _ _); k_dflt (refine useList (by k_asm) (by k_asm) (by k_asm) (by k_asm) (by k_asm) (by (first | exact rfl | assumption)) (by ktr_room) (by ktr_units) (minus_c _ _ _ _ _ (by k_mem) (by assumption) (by (first | assumption | k_extra "minus")) (by (first | assumption | omega | k_extra "minus")) (by (first | assumption | k_extra "minus"))) ?_); intro b9 n9 w9 h9 tk9 I9 F9 N9 O9; (try dsimp only); (try k_fold))
    k_dflt ktr_enter
    k_steps
    all_goals first
      | exact absurd ha' (by assumption)
      | exact endListP hret (by k_asm) (by assumption) (by k_mem) (by kcj_all) (by assumption) (goodCons (goodOf (by assumption) (goodCons (goodOf (by assumption) (goodCons (.inl hx) goodNil) (by kcj_all)) (goodCons (.inl hx) goodNil)) (by kcj_all)) (goodCons (goodOf (by assumption) (goodCons (.inl hx) goodNil) (by kcj_all)) (goodCons (.inl hx) goodNil))) (by kcj_all) (by assumption) (by exact rfl)
end
local macro_rules | `(tactic| walk_at "none 7") => `(tactic| skip)
local macro_rules | `(tactic| walk_at "none 8") => `(tactic| skip)

section
def valueZ : List Int → Int × Int
  | [] => (0, 1)
  | [a] => (a, 1)
  | a :: b :: r => (a * (valueZ (b :: r)).1 + (valueZ (b :: r)).2, (valueZ (b :: r)).1)
def valF (t b : Int) (pre : List Int) : Int × Int := pre.foldl (fun c w => (w * c.1 + c.2, c.1)) (t, b)
/-- between the turns: top and bottom are what the passed items make of the last one -/
structure ValI (t b : Int) (pre : List Int) (x y : Int) : Prop where
  top : x = (valF t b pre).1
  bottom : y = (valF t b pre).2
theorem valI_nil (t b : Int) : ValI t b [] t b := ⟨rfl, rfl⟩
theorem valI_snoc {t b n x y : Int} {pre : List Int} (h : ValI t b pre x y) : ValI t b (pre ++ [n]) (n * x + y) x := by
  have e : valF t b (pre ++ [n]) = (n * x + y, x) := by
    unfold valF
    rw [List.foldl_append, h.top, h.bottom]
    rfl
  exact ⟨by rw [e], by rw [e]⟩
theorem valueZ_foldr (a : Int) : ∀ l : List Int, valueZ (l ++ [a]) = l.foldr (fun w c => (w * c.1 + c.2, c.1)) (a, 1)
  | [] => rfl
  | [x] => rfl
  | x :: y :: r => by
    have e := valueZ_foldr a (y :: r)
    show valueZ (x :: y :: (r ++ [a])) = _
    rw [List.foldr_cons, ← e]
    rfl
theorem valF_value {ns : List Int} (h : ns ≠ []) : valF (ns.getD (-1 + (ns.length : Int)).toNat 0) 1 (ns.take (ns.length - 1)).reverse = valueZ ns := by
  obtain ⟨l, a, rfl⟩ : ∃ l a, ns = l ++ [a] := ⟨ns.dropLast, ns.getLast h, (List.dropLast_concat_getLast h).symm⟩
  have e1 : (-1 + ((l ++ [a]).length : Int)).toNat = l.length := by rw [List.length_append]; simp; omega
  have e2 : (l ++ [a]).length - 1 = l.length := by rw [List.length_append]; rfl
  rw [e1, e2, List.take_left, valueZ_foldr, valF, List.foldl_reverse]
  have e3 : (l ++ [a]).getD l.length 0 = a := by simp
  rw [e3]
theorem valI_end {ns : List Int} {x y : Int} (h : ns ≠ []) (hI : ValI (ns.getD (-1 + (ns.length : Int)).toNat 0) 1 (ns.take (ns.length - 1)).reverse x y) : x = (valueZ ns).1 ∧ y = (valueZ ns).2 := by
  have e := valF_value h
  exact ⟨by rw [hI.top, e], by rw [hI.bottom, e]⟩
theorem val_mul {ns : List Int} {k : Nat} {n b : Int} (h2 : ∀ n ∈ ns, n.natAbs < 1073741824) (hm : n ∈ (ns.take k).reverse) : IntMulOk n b := by
  have := h2 n (List.mem_of_mem_take (List.mem_reverse.mp hm))
  exact IntMulOk.of_left (PySem.intBits_le_64 (by omega) (by omega))
local macro_rules | `(tactic| mul_fits) => `(tactic| exact val_mul (by assumption) (by assumption))
set_option maxHeartbeats 8000000 in
theorem value_c (w : World) (mean : ExcName → Option Value) (mg mb : Str → Option Value) (news : Led) {x : Addr} {n : Nat} {ws : List Value} {ns : List Int}
    (hx : (x, listOf ws.toArray n) ∈ news) (hi : IntsAre ws ns) (hn : ns ≠ []) (hln : ns.length ≤ 6) (h2 : ∀ n ∈ ns, n.natAbs < 1073741824) :
    Claim w mean mg mb 146 3 24 news [.ref x] (PPair (valueZ ns).1 (valueZ ns).2) := by
  unfold Claim
  intro dp un gd cn scs a' ccd cl outer A₀ base h₀ L m s Q E B F X N T hk hd' hu hret
  have N2 := newsDup N hx
  clear N
  have hn0 : 0 < ns.length := List.length_pos_iff.mpr hn
  have hws := hi.length
  refine wpAny_call ?_
  k_with_none
  w_top off
  k_with "mycall" => (k_here; (with_reducible show wpAny _ _ (call (Value.ref 41) _) _ _ _); k_dflt (refine useInt (by k_asm) (by k_asm) (by k_asm) (by k_asm) (by k_asm) (by (first | exact rfl | assumption)) (by ktr_room) (by ktr_units) (gcd_c _ _ _ _ _ _ _ _ _) ?_); intro t9 h9 tk9 F9 N9; (try dsimp only); (try k_fold))
  k_with "mycall" => (k_here; (with_reducible show wpAny _ _ (call (Value.ref 48) _) _ _ _); k_dflt (refine usePair (by k_asm) (by k_asm) (by k_asm) (by k_asm) (by k_asm) (by (first | exact rfl | assumption)) (by ktr_room) (by ktr_units) (rat_c _ _ _ _ _ _ _ _ _ (by (first | assumption | omega | k_extra "side")) (by (first | assumption | omega | k_extra "side"))) ?_); intro b9 n9 t9 u9 h9 tk9 F9 N9 l9; (try simp only [AllLt, and_true] at l9); (try dsimp only); (try k_fold))
  k_with "mycall" => (k_here; (with_reducible show wpAny _ _ (call (Value.ref 55) _) _ _ _); k_dflt (refine usePair (by k_asm) (by k_asm) (by k_asm) (by k_asm) (by k_asm) (by (first | exact rfl | assumption)) (by ktr_room) (by ktr_units) (rsub_c _ _ _ _ _ (by k_mem) (by k_mem) (by (first | assumption | omega | k_extra "side")) (by (first | assumption | omega | k_extra "side")) (by (first | assumption | omega | k_extra "side")) (by (first | assumption | omega | k_extra "side")) (by (first | assumption | omega | k_extra "side"))) ?_); intro b9 n9 t9 u9 h9 tk9 F9 N9 l9; (try simp only [AllLt, and_true] at l9); (try dsimp only); (try k_fold))
  k_with "mycall" => (k_here; (with_reducible show wpAny _ _ (call (Value.ref 62) _) _ _ _); k_dflt (refine usePair (by k_asm) (by k_asm) (by k_asm) (by k_asm) (by k_asm) (by (first | exact rfl | assumption)) (by ktr_room) (by ktr_units) (rneg_c _ _ _ _ _ (by k_mem)) ?_); intro b9 n9 t9 u9 h9 tk9 F9 N9 l9; (try simp only [AllLt, and_true] at l9); (try dsimp only); (try k_fold))
  k_with "mycall" => (k_here; (with_reducible show wpAny _ _ (call (Value.ref 69) _) _ _ _); k_dflt (refine usePair (by k_asm) (by k_asm) (by k_asm) (by k_asm) (by k_asm) (by (first | exact rfl | assumption)) (by ktr_room) (by ktr_units) (rinv_c _ _ _ _ _ (by k_mem) (by (first | assumption | omega | k_extra "side")) (by (first | assumption | omega | k_extra "side"))) ?_); intro b9 n9 t9 u9 h9 tk9 F9 N9 l9; (try simp only [AllLt, and_true] at l9); (try dsimp only); (try k_fold))
  k_with "mycall" => (k_here; (with_reducible show wpAny _ _ (call (Value.ref 76) _) _ _ _); k_dflt (refine useInt (by k_asm) (by k_asm) (by k_asm) (by k_asm) (by k_asm) (by (first | exact rfl | assumption)) (by ktr_room) (by ktr_units) (rcompare_c _ _ _ _ _ (by k_mem) (by k_mem) (by (first | assumption | omega | k_extra "side")) (by (first | assumption | omega | k_extra "side"))) ?_); intro t9 h9 tk9 F9 N9; (try dsimp only); (try k_fold))
  k_with "mycall" => (k_here; (with_reducible show wpAny _ _ (call (Value.ref 83) _) _ _ _); k_dflt (refine useInt (by k_asm) (by k_asm) (by k_asm) (by k_asm) (by k_asm) (by (first | exact rfl | assumption)) (by ktr_room) (by ktr_units) (rfloor_c _ _ _ _ _ (by k_mem) (by (first | assumption | omega | k_extra "side")) (by (first | assumption | omega | k_extra "side"))) ?_); intro t9 h9 tk9 F9 N9; (try dsimp only); (try k_fold))
  k_with "mycall" => (k_here; (with_reducible show wpAny _ _ (call (Value.ref 90) _) _ _ _); k_dflt (refine useInts (by k_asm) (by k_asm) (by k_asm) (by k_asm) (by k_asm) (by (first | exact rfl | assumption)) (by ktr_room) (by ktr_units) (frow_c _ _ _ _ _ (by k_mem) (by (first | assumption | k_extra "frow")) (by omega)) ?_); intro b9 n9 w9 h9 tk9 I9 F9 N9 l9; (try simp only [AllLt, and_true] at l9); (try dsimp only); (try k_fold))
  k_with "mycall" => (k_here; (with_reducible show wpAny _ _ (call (Value.ref 97) _) _ _ _); k_dflt (refine usePairs (by k_asm) (by k_asm) (by k_asm) (by k_asm) (by k_asm) (by (first | exact rfl | assumption)) (by ktr_room) (by ktr_units) (conv_c _ _ _ _ _ (by k_mem) (by assumption) (by (first | assumption | k_extra "conv")) (by (first | assumption | omega))) ?_); intro b9 n9 w9 tl9 h9 tk9 P9 F9 N9 l9 o9; (try simp only [AllLt, and_true] at l9); (try dsimp only); (try k_fold))
  k_with "mycall" => (k_here; (with_reducible show wpAny _ _ (call (Value.ref 111) _) _ _ _); k_dflt (refine useRef2f (by k_asm) (by k_asm) (by k_asm) (by k_asm) (by k_asm) (by (first | exact rfl | assumption)) (by ktr_room) (by ktr_units) (near_c _ _ _ _ _ (by k_mem) (by k_mem) (by k_mem) (by (first | assumption | k_extra "near" | omega)) (by (first | assumption | k_extra "near" | omega)) (by (first | assumption | k_extra "near" | omega)) (by (first | assumption | k_extra "near" | omega)) (by (first | assumption | k_extra "near" | omega)) (by (first | assumption | k_extra "near" | omega)) (by (first | assumption | k_extra "near" | omega)) (by (first | assumption | k_extra "near" | omega)) (by (first | assumption | k_extra "near" | omega)) (by (first | assumption | k_extra "near" | omega))) (by k_extra "nearF") ?_); intro h9 tk9 F9 N9; (try dsimp only); (try k_fold))
  k_with "mycall" => (k_here; (with_reducible show wpAny _ _ (call (Value.ref 111) _) _ _ _); k_dflt (refine useRef2t (by k_asm) (by k_asm) (by k_asm) (by k_asm) (by k_asm) (by (first | exact rfl | assumption)) (by ktr_room) (by ktr_units) (near_c _ _ _ _ _ (by k_mem) (by k_mem) (by k_mem) (by (first | assumption | k_extra "near" | omega)) (by (first | assumption | k_extra "near" | omega)) (by (first | assumption | k_extra "near" | omega)) (by (first | assumption | k_extra "near" | omega)) (by (first | assumption | k_extra "near" | omega)) (by (first | assumption | k_extra "near" | omega)) (by (first | assumption | k_extra "near" | omega)) (by (first | assumption | k_extra "near" | omega)) (by (first | assumption | k_extra "near" | omega)) (by (first | assumption | k_extra "near" | omega))) (by k_extra "nearT") ?_); intro h9 tk9 F9 N9; (try dsimp only); (try k_fold))
  k_with "mycall" => (k_here; (with_reducible show wpAny _ _ (call (Value.ref 160) _) _ _ _); k_dflt (refine useBool (by k_asm) (by k_asm) (by k_asm) (by k_asm) (by k_asm) (by (first | exact rfl | assumption)) (by ktr_room) (by ktr_units) (close_c _ _ _ _ _ (by k_mem) (by (first | assumption | omega | k_extra "side")) (by (first | assumption | omega | k_extra "side")) (by (first | assumption | omega | k_extra "side"))) ?_); intro h9 tk9 F9 N9; (try dsimp only); (try k_fold))
  k_with "mycall" => (k_here; (with_reducible show wpAny _ _ (call (Value.ref 125) _) _ _ _); k_dflt (refine useList (by k_asm) (by k_asm) (by k_asm) (by k_asm) (by k_asm) (by (first | exact rfl | assumption)) (by ktr_room) (by ktr_units) (settled_c _ _ _ _ _ (by k_mem) (by (first | assumption | repeat constructor)) (by (first | assumption | k_extra "settled0" | (intro hNil; cases hNil))) (by (first | assumption | k_extra "settled1" | (simp only [List.length_cons, List.length_nil]; omega)))) ?_); intro b9 n9 w9 h9 tk9 I9 F9 N9 O9; (try dsimp only); (try k_fold))
  k_with "mycall" => (k_here; (with_reducible show wpAny _ _ (call (Value.ref 132) _) _ _ _); k_dflt (refine useList (by k_asm) (by k_asm) (by k_asm) (by k_asm) (by k_asm) (by (first | exact rfl | assumption)) (by ktr_room) (by ktr_units) (minus_c _ _ _ _ _ (by k_mem) (by assumption) (by (first | assumption | k_extra "minus")) (by (first | assumption | omega | k_extra "minus")) (by (first | assumption | k_extra "minus"))) ?_); intro b9 n9 w9 h9 tk9 I9 F9 N9 O9; (try dsimp only); (try k_fold))
  k_with "mycall" => (k_here; (with_reducible show wpAny _ _ (call (Value.ref 139) _) _ _ _); k_dflt (refine useList (by k_asm) (by k_asm) (by k_asm) (by k_asm) (by k_asm) (by (first | exact rfl | assumption)) (by ktr_room) (by ktr_units) (over_c _ _ _ _ _ (by k_mem) (by assumption) (by (first | assumption | k_extra "over"))) ?_); intro b9 n9 w9 h9 tk9 I9 F9 N9 O9; (try dsimp only); (try k_fold))
  k_with "pyIter ref" => k_state (fun pre t b => ValI (ns.getD (-1 + (ns.length : Int)).toNat 0) 1 pre t b) "top" "bottom"
  k_with "state" => first | exact valI_nil _ _ | exact valI_snoc (by assumption)
  k_dflt ktr_enter
  k_steps
  all_goals exact endPair hret (by k_asm) (by assumption) (by k_mem) (by kcj_all) (by first | assumption | exact allLt_of (by assumption) | exact And.right (by assumption) | exact And.right (And.right (by assumption)) | exact And.right (And.right (And.right (by assumption))) | exact And.right (And.right (And.right (And.right (by assumption)))) | exact And.right (And.right (And.right (And.right (And.right (by assumption)))))) (by exact (valI_end hn (by assumption)).1) (by exact (valI_end hn (by assumption)).2)
end

section
/-- as Claim, of a call that turns one object: the ledger news comes back as news' t' -/
def ClaimU (w : World) (mean : ExcName → Option Value) (mg mb : Str → Option Value) (f : Addr) (k u : Nat) (news : Led) (vs : List Value) (x : Int) (news' : Tok → Led) : Prop :=
  ∀ (dp un : Nat) (gd : Option (List Code)) (cn : Str) (cs : Scope) (a : Addr) (ccd : Value) (cl : List (Str × Addr)) (outer : List Env) (A₀ : Around) (base h₀ : Heap) (L : Addr) (m : Str → Option Value) (s : Shared) (Q E : Value → Shared → Prop),
    Below A₀ base outer h₀ → Fr h₀ L s.heap m → (hd.heap_39 w.params).In h₀ → News h₀ L s.heap news → Top hd.view_39 (looseW hd.view_39 []) mean mg mb h₀ → cs.kind = .function → dp + k < recursionLimit → un + u < cLine →
    (∀ (t t' : Tok) (h' : Heap) (tk' : Nat), Fr h₀ L h' m → News h₀ L h' (news' t') → Q (.int x t) { s with heap := h', toks := tk' }) →
    wpAny (model PySem.Challenge.rw_sa0075_01.row.prog w) (ktrTop dp un gd cn cs L a ccd cl outer) (call (.ref f) vs) Q E s

def drawZ (ns : List Int) (spot many : Int) : Int := if spot < (ns.length : Int) then (absZ (ns.getD spot.toNat 0)).fmod many else (5 * spot + 3).fmod many
theorem draw1 {ns : List Int} {spot many : Int} (h : spot < (ns.length : Int)) : (absZ (ns.getD spot.toNat 0)).fmod many = drawZ ns spot many := (if_pos h).symm
theorem draw2 {ns : List Int} {spot many : Int} (h : ¬ spot < (ns.length : Int)) : (5 * spot + 3).fmod many = drawZ ns spot many := (if_neg h).symm
/-- rest is news without the members at pl -/
inductive Rst (pl : Addr) : Led → Led → Prop
  | nil : Rst pl [] []
  | skip {o : Obj} {l r : Led} : Rst pl l r → Rst pl ((pl, o) :: l) r
  | cons {a : Addr} {o : Obj} {l r : Led} : @Ne Nat a pl → Rst pl l r → Rst pl ((a, o) :: l) ((a, o) :: r)
theorem Rst.mem {pl : Addr} {l r : Led} (h : Rst pl l r) : ∀ e ∈ r, e ∈ l ∧ e.1 ≠ pl := by
  induction h with
  | nil => exact fun _ h => nomatch h
  | skip _ ih => exact fun e he => ⟨.tail _ (ih e he).1, (ih e he).2⟩
  | cons hn _ ih =>
    intro e he
    rcases List.mem_cons.mp he with rfl | he
    · exact ⟨.head _, hn⟩
    · exact ⟨.tail _ (ih e he).1, (ih e he).2⟩
theorem newsTurn {h₀ h : Heap} {L pl xl : Addr} {o ox : Obj} {o' : Tok → Obj} {news rest : Led} (R : Rst pl news rest) (hp : (pl, o) ∈ news) (hx : (xl, ox) ∈ news) (N : News h₀ L h news) :
    News h₀ L h ((pl, o) :: (xl, ox) :: rest) ∧ (∀ p ∈ rest, p.1 ≠ pl) ∧ ∀ t', ∀ e ∈ (pl, o' t') :: rest, e ∈ (pl, o' t') :: (xl, ox) :: rest := by
  refine ⟨fun p hp' => ?_, fun p hp => (R.mem p hp).2, fun t' e he => ?_⟩
  · rcases List.mem_cons.mp hp' with rfl | hp'
    · exact N _ hp
    · rcases List.mem_cons.mp hp' with rfl | hp'
      · exact N _ hx
      · exact N _ (R.mem p hp').1
  · rcases List.mem_cons.mp he with rfl | he
    · exact .head _
    · exact .tail _ (.tail _ he)
theorem endDraw {h₀ : Heap} {L : Addr} {m : Str → Option Value} {s : Shared} {Q : Value → Shared → Prop} {x y : Int} {t t' : Tok} {h' : Heap} {tk' : Nat} {news' : Tok → Led} {Lg : Led} (ret : ∀ (t t' : Tok) (h' : Heap) (tk' : Nat), Fr h₀ L h' m → News h₀ L h' (news' t') → Q (.int x t) { s with heap := h', toks := tk' })
    (F : Fr h₀ L h' m) (N : News h₀ L h' Lg) (hs : ∀ e ∈ news' t', e ∈ Lg) (e : y = x) : Q (.int y t) { s with heap := h', toks := tk' } := by
  subst e
  exact ret t t' h' tk' F fun p hp => N p (hs p hp)

local macro_rules | `(tactic| k_all) => `(tactic| assumption)
set_option maxHeartbeats 8000000 in
theorem draw_c (w : World) (mean : ExcName → Option Value) (mg mb : Str → Option Value) (news : Led) {rest : Led} {pl xl : Addr} {np nx : Nat} {ws : List Value} {ns : List Int} {spot many : Int} {t tm : Tok}
    (R : Rst pl news rest) (hpl : (pl, listOf #[.ref xl, .int spot t] np) ∈ news) (hxl : (xl, listOf ws.toArray nx) ∈ news) (hne : xl ≠ pl) (hi : IntsAre ws ns)
    (h0 : 0 ≤ spot) (hs : spot ≤ 1000) (hm : 0 < many) (hlen : ns.length ≤ 1000) (hmb : many < 1000) :
    ClaimU w mean mg mb 118 2 16 news [.ref pl, .int many tm] (drawZ ns spot many) (fun t' => (pl, listOf #[.ref xl, .int (spot + 1) t'] np) :: rest) := by
  unfold ClaimU
  intro dp un gd cn scs a' ccd cl outer A₀ base h₀ L m s Q E B F X N T hk hd' hu hret
  obtain ⟨N2, hr, hsub⟩ := newsTurn (o' := fun t' => listOf #[.ref xl, .int (spot + 1) t'] np) R hpl hxl N
  clear N
  refine wpAny_call ?_
  k_with_none
  w_top off
  k_with "mycall" => (k_here; (with_reducible show wpAny _ _ (call (Value.ref 41) _) _ _ _); k_dflt (refine useInt (by k_asm) (by k_asm) (by k_asm) (by k_asm) (by k_asm) (by (first | exact rfl | assumption)) (by ktr_room) (by ktr_units) (gcd_c _ _ _ _ _ _ _ _ _) ?_); intro t9 h9 tk9 F9 N9; (try dsimp only); (try k_fold))
  k_with "mycall" => (k_here; (with_reducible show wpAny _ _ (call (Value.ref 48) _) _ _ _); k_dflt (refine usePair (by k_asm) (by k_asm) (by k_asm) (by k_asm) (by k_asm) (by (first | exact rfl | assumption)) (by ktr_room) (by ktr_units) (rat_c _ _ _ _ _ _ _ _ _ (by (first | assumption | omega | k_extra "side")) (by (first | assumption | omega | k_extra "side"))) ?_); intro b9 n9 t9 u9 h9 tk9 F9 N9 l9; (try simp only [AllLt, and_true] at l9); (try dsimp only); (try k_fold))
  k_with "mycall" => (k_here; (with_reducible show wpAny _ _ (call (Value.ref 55) _) _ _ _); k_dflt (refine usePair (by k_asm) (by k_asm) (by k_asm) (by k_asm) (by k_asm) (by (first | exact rfl | assumption)) (by ktr_room) (by ktr_units) (rsub_c _ _ _ _ _ (by k_mem) (by k_mem) (by (first | assumption | omega | k_extra "side")) (by (first | assumption | omega | k_extra "side")) (by (first | assumption | omega | k_extra "side")) (by (first | assumption | omega | k_extra "side")) (by (first | assumption | omega | k_extra "side"))) ?_); intro b9 n9 t9 u9 h9 tk9 F9 N9 l9; (try simp only [AllLt, and_true] at l9); (try dsimp only); (try k_fold))
  k_with "mycall" => (k_here; (with_reducible show wpAny _ _ (call (Value.ref 62) _) _ _ _); k_dflt (refine usePair (by k_asm) (by k_asm) (by k_asm) (by k_asm) (by k_asm) (by (first | exact rfl | assumption)) (by ktr_room) (by ktr_units) (rneg_c _ _ _ _ _ (by k_mem)) ?_); intro b9 n9 t9 u9 h9 tk9 F9 N9 l9; (try simp only [AllLt, and_true] at l9); (try dsimp only); (try k_fold))
  k_with "mycall" => (k_here; (with_reducible show wpAny _ _ (call (Value.ref 69) _) _ _ _); k_dflt (refine usePair (by k_asm) (by k_asm) (by k_asm) (by k_asm) (by k_asm) (by (first | exact rfl | assumption)) (by ktr_room) (by ktr_units) (rinv_c _ _ _ _ _ (by k_mem) (by (first | assumption | omega | k_extra "side")) (by (first | assumption | omega | k_extra "side"))) ?_); intro b9 n9 t9 u9 h9 tk9 F9 N9 l9; (try simp only [AllLt, and_true] at l9); (try dsimp only); (try k_fold))
  k_with "mycall" => (k_here; (with_reducible show wpAny _ _ (call (Value.ref 76) _) _ _ _); k_dflt (refine useInt (by k_asm) (by k_asm) (by k_asm) (by k_asm) (by k_asm) (by (first | exact rfl | assumption)) (by ktr_room) (by ktr_units) (rcompare_c _ _ _ _ _ (by k_mem) (by k_mem) (by (first | assumption | omega | k_extra "side")) (by (first | assumption | omega | k_extra "side"))) ?_); intro t9 h9 tk9 F9 N9; (try dsimp only); (try k_fold))
  k_with "mycall" => (k_here; (with_reducible show wpAny _ _ (call (Value.ref 83) _) _ _ _); k_dflt (refine useInt (by k_asm) (by k_asm) (by k_asm) (by k_asm) (by k_asm) (by (first | exact rfl | assumption)) (by ktr_room) (by ktr_units) (rfloor_c _ _ _ _ _ (by k_mem) (by (first | assumption | omega | k_extra "side")) (by (first | assumption | omega | k_extra "side"))) ?_); intro t9 h9 tk9 F9 N9; (try dsimp only); (try k_fold))
  k_with "mycall" => (k_here; (with_reducible show wpAny _ _ (call (Value.ref 90) _) _ _ _); k_dflt (refine useInts (by k_asm) (by k_asm) (by k_asm) (by k_asm) (by k_asm) (by (first | exact rfl | assumption)) (by ktr_room) (by ktr_units) (frow_c _ _ _ _ _ (by k_mem) (by (first | assumption | k_extra "frow")) (by omega)) ?_); intro b9 n9 w9 h9 tk9 I9 F9 N9 l9; (try simp only [AllLt, and_true] at l9); (try dsimp only); (try k_fold))
  k_with "mycall" => (k_here; (with_reducible show wpAny _ _ (call (Value.ref 97) _) _ _ _); k_dflt (refine usePairs (by k_asm) (by k_asm) (by k_asm) (by k_asm) (by k_asm) (by (first | exact rfl | assumption)) (by ktr_room) (by ktr_units) (conv_c _ _ _ _ _ (by k_mem) (by assumption) (by (first | assumption | k_extra "conv")) (by (first | assumption | omega))) ?_); intro b9 n9 w9 tl9 h9 tk9 P9 F9 N9 l9 o9; (try simp only [AllLt, and_true] at l9); (try dsimp only); (try k_fold))
  k_with "mycall" => (k_here; (with_reducible show wpAny _ _ (call (Value.ref 111) _) _ _ _); k_dflt (refine useRef2f (by k_asm) (by k_asm) (by k_asm) (by k_asm) (by k_asm) (by (first | exact rfl | assumption)) (by ktr_room) (by ktr_units) (near_c _ _ _ _ _ (by k_mem) (by k_mem) (by k_mem) (by (first | assumption | k_extra "near" | omega)) (by (first | assumption | k_extra "near" | omega)) (by (first | assumption | k_extra "near" | omega)) (by (first | assumption | k_extra "near" | omega)) (by (first | assumption | k_extra "near" | omega)) (by (first | assumption | k_extra "near" | omega)) (by (first | assumption | k_extra "near" | omega)) (by (first | assumption | k_extra "near" | omega)) (by (first | assumption | k_extra "near" | omega)) (by (first | assumption | k_extra "near" | omega))) (by k_extra "nearF") ?_); intro h9 tk9 F9 N9; (try dsimp only); (try k_fold))
  k_with "mycall" => (k_here; (with_reducible show wpAny _ _ (call (Value.ref 111) _) _ _ _); k_dflt (refine useRef2t (by k_asm) (by k_asm) (by k_asm) (by k_asm) (by k_asm) (by (first | exact rfl | assumption)) (by ktr_room) (by ktr_units) (near_c _ _ _ _ _ (by k_mem) (by k_mem) (by k_mem) (by (first | assumption | k_extra "near" | omega)) (by (first | assumption | k_extra "near" | omega)) (by (first | assumption | k_extra "near" | omega)) (by (first | assumption | k_extra "near" | omega)) (by (first | assumption | k_extra "near" | omega)) (by (first | assumption | k_extra "near" | omega)) (by (first | assumption | k_extra "near" | omega)) (by (first | assumption | k_extra "near" | omega)) (by (first | assumption | k_extra "near" | omega)) (by (first | assumption | k_extra "near" | omega))) (by k_extra "nearT") ?_); intro h9 tk9 F9 N9; (try dsimp only); (try k_fold))
  k_with "mycall" => (k_here; (with_reducible show wpAny _ _ (call (Value.ref 160) _) _ _ _); k_dflt (refine useBool (by k_asm) (by k_asm) (by k_asm) (by k_asm) (by k_asm) (by (first | exact rfl | assumption)) (by ktr_room) (by ktr_units) (close_c _ _ _ _ _ (by k_mem) (by (first | assumption | omega | k_extra "side")) (by (first | assumption | omega | k_extra "side")) (by (first | assumption | omega | k_extra "side"))) ?_); intro h9 tk9 F9 N9; (try dsimp only); (try k_fold))
  k_with "mycall" => (k_here; (with_reducible show wpAny _ _ (call (Value.ref 125) _) _ _ _); k_dflt (refine useList (by k_asm) (by k_asm) (by k_asm) (by k_asm) (by k_asm) (by (first | exact rfl | assumption)) (by ktr_room) (by ktr_units) (settled_c _ _ _ _ _ (by k_mem) (by (first | assumption | repeat constructor)) (by (first | assumption | k_extra "settled0" | (intro hNil; cases hNil))) (by (first | assumption | k_extra "settled1" | (simp only [List.length_cons, List.length_nil]; omega)))) ?_); intro b9 n9 w9 h9 tk9 I9 F9 N9 O9; (try dsimp only); (try k_fold))
  k_with "mycall" => (k_here; (with_reducible show wpAny _ _ (call (Value.ref 132) _) _ _ _); k_dflt (refine useList (by k_asm) (by k_asm) (by k_asm) (by k_asm) (by k_asm) (by (first | exact rfl | assumption)) (by ktr_room) (by ktr_units) (minus_c _ _ _ _ _ (by k_mem) (by assumption) (by (first | assumption | k_extra "minus")) (by (first | assumption | omega | k_extra "minus")) (by (first | assumption | k_extra "minus"))) ?_); intro b9 n9 w9 h9 tk9 I9 F9 N9 O9; (try dsimp only); (try k_fold))
  k_with "mycall" => (k_here; (with_reducible show wpAny _ _ (call (Value.ref 139) _) _ _ _); k_dflt (refine useList (by k_asm) (by k_asm) (by k_asm) (by k_asm) (by k_asm) (by (first | exact rfl | assumption)) (by ktr_room) (by ktr_units) (over_c _ _ _ _ _ (by k_mem) (by assumption) (by (first | assumption | k_extra "over"))) ?_); intro b9 n9 w9 h9 tk9 I9 F9 N9 O9; (try dsimp only); (try k_fold))
  k_with "mycall" => (k_here; (with_reducible show wpAny _ _ (call (Value.ref 146) _) _ _ _); k_dflt (refine usePair (by k_asm) (by k_asm) (by k_asm) (by k_asm) (by k_asm) (by (first | exact rfl | assumption)) (by ktr_room) (by ktr_units) (value_c _ _ _ _ _ (by k_mem) (by assumption) (by (first | assumption | k_extra "value")) (by (first | assumption | k_extra "value")) (by (first | assumption | k_extra "value"))) ?_); intro b9 n9 t9 u9 h9 tk9 F9 N9 l9; (try simp only [AllLt, and_true] at l9); (try dsimp only); (try k_fold))
  k_dflt ktr_enter
  k_steps
  · exact endDraw hret (by k_asm) (by assumption) (hsub _) (draw1 (by assumption))
  · exact endDraw hret (by k_asm) (by assumption) (hsub _) (draw2 (by assumption))
theorem drawZ_lo {ns : List Int} {spot many : Int} (h : 0 < many) : 0 ≤ drawZ ns spot many := by
  unfold drawZ; split <;> exact Int.fmod_nonneg_of_pos _ h
theorem drawZ_hi {ns : List Int} {spot many : Int} (h : 0 < many) : drawZ ns spot many < many := by
  unfold drawZ; split <;> exact Int.fmod_lt_of_pos _ h
theorem useDraw {w : World} {mean : ExcName → Option Value} {mg mb : Str → Option Value} {f : Addr} {k u : Nat} {news : Led} {vs : List Value} {news' : Tok → Led}
  {dp un : Nat} {gd : Option (List Code)} {cn : Str} {cs : Scope} {a : Addr} {ccd : Value} {cl : List (Str × Addr)} {outer : List Env} {A₀ : Around} {base h₀ : Heap} {L : Addr} {m : Str → Option Value} {s : Shared} {Q E : Value → Shared → Prop} {ns : List Int} {spot many : Int}
    (B : Below A₀ base outer h₀) (F : Fr h₀ L s.heap m) (X : (hd.heap_39 w.params).In h₀) (N : News h₀ L s.heap news) (T : Top hd.view_39 (looseW hd.view_39 []) mean mg mb h₀) (hk : cs.kind = .function) (hd' : dp + k < recursionLimit) (hu : un + u < cLine) (C : ClaimU w mean mg mb f k u news vs (drawZ ns spot many) news') (hm : 0 < many)
    (ret : ∀ (y : Int) (t t' : Tok) (h' : Heap) (tk' : Nat), 0 ≤ y → y < many → Fr h₀ L h' m → News h₀ L h' (news' t') → Q (.int y t) { s with heap := h', toks := tk' }) :
    wpAny (model PySem.Challenge.rw_sa0075_01.row.prog w) (ktrTop dp un gd cn cs L a ccd cl outer) (call (.ref f) vs) Q E s :=
  C _ _ _ _ _ _ _ _ _ _ _ _ _ _ _ _ _ B F X N T hk hd' hu fun t t' h' tk' => ret _ t t' h' tk' (drawZ_lo hm) (drawZ_hi hm)
end
local macro_rules | `(tactic| walk_at "rst") => `(tactic| first | exact Rst.nil | (refine' Rst.skip ?a; (case a => walk_at "rst")) | (refine' Rst.cons ?a ?b; (case a => k_ne); (case b => walk_at "rst")))

section
/-- what stands between the turns of a loop: the letters c, the ledger Led c, the names ps c; the names in stored may hold anything -/
def FlJ {σ : Type} (Led : σ → List (Addr × Obj)) (ps : σ → List (Str × Value)) (P : Nat → σ → Prop) (x : Str) (stored : List Str) (m₀ : Str → Option Value) (i : Nat) (m : Str → Option Value) (nx : List (Addr × Obj)) : Prop :=
  ∃ c : σ, nx = Led c ∧ (∀ p ∈ ps c, m p.1 = some p.2) ∧ (∀ z, z ≠ x → (∀ p ∈ ps c, z ≠ p.1) → stored.contains z = false → m z = m₀ z) ∧ P i c

theorem for_pairs {σ : Type} {prog : Program} {w : World} {A : Around} {E : Value → Shared → Prop} {Q : Flow → Shared → Prop} {s : Shared} {env : Env} {h₀ : Heap} {L : Addr} {x : Str} {body : List Stmt} {m₀ : Str → Option Value} {Lg news : Led} {l : Addr} {vs : List Value} {nn : Nat} {cs : List (Int × Int)}
    (Led : σ → List (Addr × Obj)) (ps : σ → List (Str × Value)) (P : Nat → σ → Prop) (stored : List Str) (c₀ : σ)
    (hL : env.locals = L) (hh : A.handled = none) (F : Fr h₀ L s.heap m₀) (N : News h₀ L s.heap Lg) (hl : (l, listOf vs.toArray nn) ∈ news) (hp : Pairs news vs cs) (hn : ∀ c, ∀ e ∈ news, e ∈ Led c) (hk : ∀ p ∈ ps c₀, m₀ p.1 = some p.2) (h0 : ∀ e ∈ Led c₀, e ∈ Lg) (hP : P 0 c₀)
    (turn : ∀ (i : Nat) (d : Int × Int) (c : σ) (a : Addr) (n : Nat) (t u : Tok) (own : List (Addr × Obj)) (h : Heap) (tk : Nat) (v : Str → Option Value), cs.drop i = d :: cs.drop (i + 1) → P i c → (a, tupO [.int d.1 t, .int d.2 u] n) ∈ news → OwnOff own ((Led c).map (·.1)) →
      Fr h₀ L h (fun y => if y = x then some (.ref a) else kstB (fun z => if stored.contains z then v z else m₀ z) (ps c) y) → News h₀ L h (Led c ++ own) →
      wpAny (model prog w) A (execs body env) (InvPostG h₀ L (fun m' nx => (l, listOf vs.toArray nn) ∈ nx ∧ FlJ Led ps P x stored m₀ (i + 1) m' nx) own { s with heap := h, toks := tk } Q) E { s with heap := h, toks := tk })
    (done : ∀ (c : σ) (h : Heap) (tk : Nat) (v : Str → Option Value), P cs.length c → Fr h₀ L h (fun y => if y = x then v y else kstB (fun z => if stored.contains z then v z else m₀ z) (ps c) y) → News h₀ L h (Led c) → Q .next { s with heap := h, toks := tk }) :
    wpAny (model prog w) A (pyIter (.ref l)) (fun it s₂ => LoopAtV prog w A h₀ env x body Q E it s₂) E s := by
  subst hL
  refine kdl_iter (news := Led c₀) (fun i m nx => FlJ Led ps P x stored m₀ i m nx) hh (hn c₀ _ hl) F (fun e he => N e (h0 e he)) ⟨c₀, rfl, hk, fun _ _ _ _ => rfl, hP⟩ ?_ ?_
  · rintro i v m₁ nx h tk own hv hoff _ ⟨c, rfl, g1, g2, g3⟩ F₁ N₁
    have hi : i < cs.length := by rw [← hp.length]; exact (List.getElem?_eq_some_iff.mp hv).1
    obtain ⟨a, n, t, u, hx, hm⟩ := hp.get (List.getElem?_eq_getElem hi)
    have ev : v = .ref a := by rw [hx] at hv; exact (Option.some.inj hv).symm
    subst ev
    exact turn i (cs[i]'hi) c a n t u own h tk m₁ (List.drop_eq_getElem_cons hi) g3 hm hoff (kst_fr g1 g2 F₁) N₁
  · rintro m₁ nx h tk ⟨c, rfl, g1, g2, g3⟩ F₁ N₁
    rw [hp.length] at g3
    exact done c h tk m₁ g3 (kst_frOut g1 g2 F₁) N₁

theorem for_end {σ : Type} {h₀ h' : Heap} {L : Addr} {s₁ : Shared} {Led : σ → List (Addr × Obj)} {ps : σ → List (Str × Value)} {P : Nat → σ → Prop} {x : Str} {stored : List Str} {m₀ m' : Str → Option Value} {i : Nat} {own news' : List (Addr × Obj)} {e : Addr × Obj} {tk : Nat} (c : σ)
    (F : Fr h₀ L h' m') (N : News h₀ L h' news') (hs : ∀ p ∈ Led c, p ∈ news') (ho : ∀ p ∈ own, p ∈ news') (hoff : OwnOff own ((Led c).map (·.1))) (he : e ∈ Led c) (hk : ∀ p ∈ ps c, m' p.1 = some p.2) (hr : ∀ z, z ≠ x → (∀ p ∈ ps c, z ≠ p.1) → stored.contains z = false → m' z = m₀ z) (hP : P (i + 1) c) :
    InvEndG h₀ L (fun m' nx => e ∈ nx ∧ FlJ Led ps P x stored m₀ (i + 1) m' nx) own s₁ { s₁ with heap := h', toks := tk } :=
  ⟨h', tk, m', news', Led c, rfl, F, N, hs, ho, hoff, he, c, rfl, hk, hr, hP⟩

def sidesOk (p q : Int) : Int → Int → Int → Int → Int → List (Int × Int) → Bool
  | _, _, _, _, other, [] => decide (other = 0)
  | a, b, side, one, other, (c, d) :: r =>
    small a && small b && small c && small d && small side && decide (0 < other) && small other && small (one.fmod other) && decide (c * b - a * d = side) && decide (c * q - p * d = side * one.fmod other) &&
    (!decide (0 < b) || (decide (q * b ≠ 0) && small (q * b) && decide (q * d ≠ 0) && small (q * d) && small (distX p q a b) && small (distY p q a b) && small (distX p q c d) && small (distY p q c d) && !nearZ p q a b c d && nearZ p q c d a b)) &&
    sidesOk p q c d (0 - side) other (one.fmod other) r
structure SdF (p q a b side one other c d : Int) : Prop where
  ha : a.natAbs < 1073741824
  hb : b.natAbs < 1073741824
  hc : c.natAbs < 1073741824
  hd : d.natAbs < 1073741824
  hs : side.natAbs < 1073741824
  pos : 0 < other
  ho : other.natAbs < 1073741824
  hr : (one.fmod other).natAbs < 1073741824
  e1 : c * b - a * d = side
  e2 : c * q - p * d = side * one.fmod other
  n1 : 0 < b → q * b ≠ 0
  n2 : 0 < b → (q * b).natAbs < 1073741824
  n3 : 0 < b → q * d ≠ 0
  n4 : 0 < b → (q * d).natAbs < 1073741824
  n5 : 0 < b → (distX p q a b).natAbs < 1073741824
  n6 : 0 < b → (distY p q a b).natAbs < 1073741824
  n7 : 0 < b → (distX p q c d).natAbs < 1073741824
  n8 : 0 < b → (distY p q c d).natAbs < 1073741824
  f : 0 < b → nearZ p q a b c d = false
  t : 0 < b → nearZ p q c d a b = true
theorem sides_step {p q a b side one other c d : Int} {r : List (Int × Int)} (h : sidesOk p q a b side one other ((c, d) :: r) = true) : SdF p q a b side one other c d ∧ sidesOk p q c d (0 - side) other (one.fmod other) r = true := by
  unfold sidesOk at h
  simp only [Bool.and_eq_true, Bool.or_eq_true, Bool.not_eq_true', small_iff, decide_eq_true_eq, decide_eq_false_iff_not] at h
  obtain ⟨⟨⟨⟨⟨⟨⟨⟨⟨⟨⟨h1, h2⟩, h3⟩, h4⟩, h5⟩, h6⟩, h7⟩, h8⟩, h9⟩, h10⟩, h11⟩, h12⟩ := h
  refine ⟨⟨h1, h2, h3, h4, h5, h6, h7, h8, h9, h10, ?_, ?_, ?_, ?_, ?_, ?_, ?_, ?_, ?_, ?_⟩, h12⟩ <;> intro hb <;> rcases h11 with h | ⟨⟨⟨⟨⟨⟨⟨⟨⟨g1, g2⟩, g3⟩, g4⟩, g5⟩, g6⟩, g7⟩, g8⟩, g9⟩, g10⟩ <;> first | exact absurd hb h | assumption

structure SdS where
  xb : Addr
  nb : Nat
  tb : Tok
  ub : Tok
  a : Int
  b : Int
  side : Int
  ts : Tok
  one : Int
  to1 : Tok
  other : Int
  to2 : Tok
abbrev SdLed (news : Led) (c : SdS) : Led := (c.xb, tupO [.int c.a c.tb, .int c.b c.ub] c.nb) :: news
abbrev SdPs (c : SdS) : List (Str × Value) := [(Str.ofString "before", .ref c.xb), (Str.ofString "side", .int c.side c.ts), (Str.ofString "one", .int c.one c.to1), (Str.ofString "other", .int c.other c.to2)]
def SdP (p q : Int) (cs : List (Int × Int)) (i : Nat) (c : SdS) : Prop := sidesOk p q c.a c.b c.side c.one c.other (cs.drop i) = true

theorem ownSides {own news : List (Addr × Obj)} {e e' : Addr × Obj} (h : OwnOff own ((e :: news).map (·.1))) (hm : e' ∈ news) : OwnOff own ((e' :: news).map (·.1)) := fun p hp b hb => by
  rcases List.mem_cons.mp hb with rfl | hb
  · exact h p hp _ (.tail _ (List.mem_map_of_mem hm))
  · exact h p hp b (.tail _ hb)
local macro_rules | `(tactic| ke_room) => `(tactic| ktr_units)
set_option maxHeartbeats 8000000 in
theorem sides_c (w : World) (mean : ExcName → Option Value) (mg mb : Str → Option Value) (news : Led) {x y : Addr} {n ny : Nat} {t u : Tok} {p q : Int} {vs : List Value} {cs : List (Int × Int)}
    (hx : (x, tupO [.int p t, .int q u] n) ∈ news) (hy : (y, listOf vs.toArray ny) ∈ news) (hp : Pairs news vs cs) (hps : p.natAbs < 1073741824) (hqs : q.natAbs < 1073741824) (hok : sidesOk p q 1 0 (-1) p q cs = true) :
    Claim w mean mg mb 153 7 160 news [.ref x, .ref y] (PBool true) := by
  unfold Claim
  intro dp un gd cn scs a' ccd cl outer A₀ base h₀ L m s Q E B F X N T hk hd' hu hret
  refine wpAny_call ?_
  k_with_none
  w_top off
  k_with "mycall" => (k_here; (with_reducible show wpAny _ _ (call (Value.ref 41) _) _ _ _); k_dflt (refine useInt (by k_asm) (by k_asm) (by k_asm) (by k_asm) (by k_asm) (by (first | exact rfl | assumption)) (by ktr_room) (by ktr_units) (gcd_c _ _ _ _ _ _ _ _ _) ?_); intro t9 h9 tk9 F9 N9; (try dsimp only); (try k_fold))
  k_with "mycall" => (k_here; (with_reducible show wpAny _ _ (call (Value.ref 48) _) _ _ _); k_dflt (refine usePair (by k_asm) (by k_asm) (by k_asm) (by k_asm) (by k_asm) (by (first | exact rfl | assumption)) (by ktr_room) (by ktr_units) (rat_c _ _ _ _ _ _ _ _ _ (by (first | assumption | omega | k_extra "side")) (by (first | assumption | omega | k_extra "side"))) ?_); intro b9 n9 t9 u9 h9 tk9 F9 N9 l9; (try simp only [AllLt, and_true] at l9); (try dsimp only); (try k_fold))
  k_with "mycall" => (k_here; (with_reducible show wpAny _ _ (call (Value.ref 55) _) _ _ _); k_dflt (refine usePair (by k_asm) (by k_asm) (by k_asm) (by k_asm) (by k_asm) (by (first | exact rfl | assumption)) (by ktr_room) (by ktr_units) (rsub_c _ _ _ _ _ (by k_mem) (by k_mem) (by (first | assumption | omega | k_extra "side")) (by (first | assumption | omega | k_extra "side")) (by (first | assumption | omega | k_extra "side")) (by (first | assumption | omega | k_extra "side")) (by (first | assumption | omega | k_extra "side"))) ?_); intro b9 n9 t9 u9 h9 tk9 F9 N9 l9; (try simp only [AllLt, and_true] at l9); (try dsimp only); (try k_fold))
  k_with "mycall" => (k_here; (with_reducible show wpAny _ _ (call (Value.ref 62) _) _ _ _); k_dflt (refine usePair (by k_asm) (by k_asm) (by k_asm) (by k_asm) (by k_asm) (by (first | exact rfl | assumption)) (by ktr_room) (by ktr_units) (rneg_c _ _ _ _ _ (by k_mem)) ?_); intro b9 n9 t9 u9 h9 tk9 F9 N9 l9; (try simp only [AllLt, and_true] at l9); (try dsimp only); (try k_fold))
  k_with "mycall" => (k_here; (with_reducible show wpAny _ _ (call (Value.ref 69) _) _ _ _); k_dflt (refine usePair (by k_asm) (by k_asm) (by k_asm) (by k_asm) (by k_asm) (by (first | exact rfl | assumption)) (by ktr_room) (by ktr_units) (rinv_c _ _ _ _ _ (by k_mem) (by (first | assumption | omega | k_extra "side")) (by (first | assumption | omega | k_extra "side"))) ?_); intro b9 n9 t9 u9 h9 tk9 F9 N9 l9; (try simp only [AllLt, and_true] at l9); (try dsimp only); (try k_fold))
  k_with "mycall" => (k_here; (with_reducible show wpAny _ _ (call (Value.ref 76) _) _ _ _); k_dflt (refine useInt (by k_asm) (by k_asm) (by k_asm) (by k_asm) (by k_asm) (by (first | exact rfl | assumption)) (by ktr_room) (by ktr_units) (rcompare_c _ _ _ _ _ (by k_mem) (by k_mem) (by (first | assumption | omega | k_extra "side")) (by (first | assumption | omega | k_extra "side"))) ?_); intro t9 h9 tk9 F9 N9; (try dsimp only); (try k_fold))
  k_with "mycall" => (k_here; (with_reducible show wpAny _ _ (call (Value.ref 83) _) _ _ _); k_dflt (refine useInt (by k_asm) (by k_asm) (by k_asm) (by k_asm) (by k_asm) (by (first | exact rfl | assumption)) (by ktr_room) (by ktr_units) (rfloor_c _ _ _ _ _ (by k_mem) (by (first | assumption | omega | k_extra "side")) (by (first | assumption | omega | k_extra "side"))) ?_); intro t9 h9 tk9 F9 N9; (try dsimp only); (try k_fold))
  k_with "mycall" => (k_here; (with_reducible show wpAny _ _ (call (Value.ref 90) _) _ _ _); k_dflt (refine useInts (by k_asm) (by k_asm) (by k_asm) (by k_asm) (by k_asm) (by (first | exact rfl | assumption)) (by ktr_room) (by ktr_units) (frow_c _ _ _ _ _ (by k_mem) (by (first | assumption | k_extra "frow")) (by omega)) ?_); intro b9 n9 w9 h9 tk9 I9 F9 N9 l9; (try simp only [AllLt, and_true] at l9); (try dsimp only); (try k_fold))
  k_with "mycall" => (k_here; (with_reducible show wpAny _ _ (call (Value.ref 97) _) _ _ _); k_dflt (refine usePairs (by k_asm) (by k_asm) (by k_asm) (by k_asm) (by k_asm) (by (first | exact rfl | assumption)) (by ktr_room) (by ktr_units) (conv_c _ _ _ _ _ (by k_mem) (by assumption) (by (first | assumption | k_extra "conv")) (by (first | assumption | omega))) ?_); intro b9 n9 w9 tl9 h9 tk9 P9 F9 N9 l9 o9; (try simp only [AllLt, and_true] at l9); (try dsimp only); (try k_fold))
  k_with "mycall" => (k_here; (with_reducible show wpAny _ _ (call (Value.ref 111) _) _ _ _); k_dflt (refine useRef2f (by k_asm) (by k_asm) (by k_asm) (by k_asm) (by k_asm) (by (first | exact rfl | assumption)) (by ktr_room) (by ktr_units) (near_c _ _ _ _ _ (by k_mem) (by k_mem) (by k_mem) (by (first | assumption | k_extra "near" | omega)) (by (first | assumption | k_extra "near" | omega)) (by (first | assumption | k_extra "near" | omega)) (by (first | assumption | k_extra "near" | omega)) (by (first | assumption | k_extra "near" | omega)) (by (first | assumption | k_extra "near" | omega)) (by (first | assumption | k_extra "near" | omega)) (by (first | assumption | k_extra "near" | omega)) (by (first | assumption | k_extra "near" | omega)) (by (first | assumption | k_extra "near" | omega))) (by k_extra "nearF") ?_); intro h9 tk9 F9 N9; (try dsimp only); (try k_fold))
  k_with "mycall" => (k_here; (with_reducible show wpAny _ _ (call (Value.ref 111) _) _ _ _); k_dflt (refine useRef2t (by k_asm) (by k_asm) (by k_asm) (by k_asm) (by k_asm) (by (first | exact rfl | assumption)) (by ktr_room) (by ktr_units) (near_c _ _ _ _ _ (by k_mem) (by k_mem) (by k_mem) (by (first | assumption | k_extra "near" | omega)) (by (first | assumption | k_extra "near" | omega)) (by (first | assumption | k_extra "near" | omega)) (by (first | assumption | k_extra "near" | omega)) (by (first | assumption | k_extra "near" | omega)) (by (first | assumption | k_extra "near" | omega)) (by (first | assumption | k_extra "near" | omega)) (by (first | assumption | k_extra "near" | omega)) (by (first | assumption | k_extra "near" | omega)) (by (first | assumption | k_extra "near" | omega))) (by k_extra "nearT") ?_); intro h9 tk9 F9 N9; (try dsimp only); (try k_fold))
  k_with "mycall" => (k_here; (with_reducible show wpAny _ _ (call (Value.ref 160) _) _ _ _); k_dflt (refine useBool (by k_asm) (by k_asm) (by k_asm) (by k_asm) (by k_asm) (by (first | exact rfl | assumption)) (by ktr_room) (by ktr_units) (close_c _ _ _ _ _ (by k_mem) (by (first | assumption | omega | k_extra "side")) (by (first | assumption | omega | k_extra "side")) (by (first | assumption | omega | k_extra "side"))) ?_); intro h9 tk9 F9 N9; (try dsimp only); (try k_fold))
  k_with "mycall" => (k_here; (with_reducible show wpAny _ _ (call (Value.ref 125) _) _ _ _); k_dflt (refine useList (by k_asm) (by k_asm) (by k_asm) (by k_asm) (by k_asm) (by (first | exact rfl | assumption)) (by ktr_room) (by ktr_units) (settled_c _ _ _ _ _ (by k_mem) (by (first | assumption | repeat constructor)) (by (first | assumption | k_extra "settled0" | (intro hNil; cases hNil))) (by (first | assumption | k_extra "settled1" | (simp only [List.length_cons, List.length_nil]; omega)))) ?_); intro b9 n9 w9 h9 tk9 I9 F9 N9 O9; (try dsimp only); (try k_fold))
  k_with "mycall" => (k_here; (with_reducible show wpAny _ _ (call (Value.ref 132) _) _ _ _); k_dflt (refine useList (by k_asm) (by k_asm) (by k_asm) (by k_asm) (by k_asm) (by (first | exact rfl | assumption)) (by ktr_room) (by ktr_units) (minus_c _ _ _ _ _ (by k_mem) (by assumption) (by (first | assumption | k_extra "minus")) (by (first | assumption | omega | k_extra "minus")) (by (first | assumption | k_extra "minus"))) ?_); intro b9 n9 w9 h9 tk9 I9 F9 N9 O9; (try dsimp only); (try k_fold))
  k_with "mycall" => (k_here; (with_reducible show wpAny _ _ (call (Value.ref 139) _) _ _ _); k_dflt (refine useList (by k_asm) (by k_asm) (by k_asm) (by k_asm) (by k_asm) (by (first | exact rfl | assumption)) (by ktr_room) (by ktr_units) (over_c _ _ _ _ _ (by k_mem) (by assumption) (by (first | assumption | k_extra "over"))) ?_); intro b9 n9 w9 h9 tk9 I9 F9 N9 O9; (try dsimp only); (try k_fold))
  k_with "mycall" => (k_here; (with_reducible show wpAny _ _ (call (Value.ref 146) _) _ _ _); k_dflt (refine usePair (by k_asm) (by k_asm) (by k_asm) (by k_asm) (by k_asm) (by (first | exact rfl | assumption)) (by ktr_room) (by ktr_units) (value_c _ _ _ _ _ (by k_mem) (by assumption) (by (first | assumption | k_extra "value")) (by (first | assumption | k_extra "value")) (by (first | assumption | k_extra "value"))) ?_); intro b9 n9 t9 u9 h9 tk9 F9 N9 l9; (try simp only [AllLt, and_true] at l9); (try dsimp only); (try k_fold))
  k_with "mycall" => (k_here; (with_reducible show wpAny _ _ (call (Value.ref 118) _) _ _ _); k_dflt (refine useDraw (by k_asm) (by k_asm) (by k_asm) (by k_asm) (by k_asm) (by (first | exact rfl | assumption)) (by ktr_room) (by ktr_units) (draw_c _ _ _ _ _ (by walk_at "rst") (by k_mem) (by k_mem) (by k_ne) (by (first | assumption | k_extra "drawI")) (by (first | assumption | omega | k_extra "draw")) (by (first | assumption | omega | k_extra "draw")) (by (first | assumption | omega | k_extra "draw")) (by ((try simp only [List.length_map, List.length_take]); omega)) (by (first | assumption | omega | k_extra "draw"))) (by omega) ?_); intro y9 t9 u9 h9 tk9 lo9 hi9 F9 N9; (try dsimp only); (try k_fold))
  k_with "near" => first | exact n1 (by assumption) | exact n2 (by assumption) | exact n3 (by assumption) | exact n4 (by assumption) | exact n5 (by assumption) | exact n6 (by assumption) | exact n7 (by assumption) | exact n8 (by assumption)
  k_with "nearF" => exact hn9 (by assumption)
  k_with "nearT" => exact hn10 (by assumption)
  k_with "pyIter ref" => ((rename Fr _ _ _ _ => lF'); (rename News _ _ _ _ => lN'); k_dflt (refine for_pairs (SdLed news) SdPs (SdP p q cs) [] ⟨_, _, _, _, 1, 0, -1, _, p, _, q, _⟩ (by exact rfl) (by exact rfl) lF' lN' hy hp (fun _ _ h => .tail _ h) (by exact List.forall_mem_cons.mpr ⟨rfl, List.forall_mem_cons.mpr ⟨rfl, List.forall_mem_cons.mpr ⟨rfl, List.forall_mem_cons.mpr ⟨rfl, List.forall_mem_nil _⟩⟩⟩⟩) (by exact List.forall_mem_cons.mpr ⟨by k_mem, by kcj_all⟩) hok ?kt ?kd); (case' kt => (intro i d c a n t u own h tk v hdr hP hm hoff F' N'; (obtain ⟨dc, dd⟩ := d); (obtain ⟨xb, nb, tb, ub, ba, bb, sd, ts, on, to1, ot, to2⟩ := c); unfold SdP at hP; dsimp only at hdr hP hm hoff F' N'; rw [hdr] at hP; (obtain ⟨S9, hrec⟩ := sides_step hP); (obtain ⟨s1, s2, s3, s4, s5, s6, s7, s8, s9, s10, n1, n2, n3, n4, n5, n6, n7, n8, hn9, hn10⟩ := S9); dsimp only [SdPs, kstB] at F'; dsimp only [List.cons_append] at N'; (have N2' := newsDup N' (.tail _ (List.mem_append.mpr (.inl hm)))); clear lF' lN' N'; (try k_fold))); (case' kd => (intro c h tk v hP F' N'; (obtain ⟨xb, nb, tb, ub, ba, bb, sd, ts, on, to1, ot, to2⟩ := c); dsimp only [SdPs, kstB] at F'; unfold SdP at hP; rw [List.drop_length] at hP; dsimp only at hP; unfold sidesOk at hP; (have hz := of_decide_eq_true hP); clear lF' lN'; (try k_fold))))
  k_dflt ktr_enter
  k_steps
  all_goals first
    | exact absurd s9 (by assumption)
    | exact absurd s10 (by assumption)
    | exact endBool hret (by k_asm) (by assumption) (by kcj_all) (by rw [hz]; rfl)
    | exact for_end ⟨a, n, t, u, dc, dd, 0 - sd, _, ot, _, on.fmod ot, _⟩ (by assumption) (by assumption) (by kcj_all) (by kcj_all) (ownSides hoff hm) (.tail _ hy) (by exact List.forall_mem_cons.mpr ⟨rfl, List.forall_mem_cons.mpr ⟨rfl, List.forall_mem_cons.mpr ⟨rfl, List.forall_mem_cons.mpr ⟨rfl, List.forall_mem_nil _⟩⟩⟩⟩) (by intro z h1 h2 _; simp only [SdPs, List.forall_mem_cons, List.not_mem_nil, false_implies, implies_true, and_true, ne_eq] at h2; simp [h1, h2]) (by exact hrec)
end

section
/-- what stands between the turns of a loop over a range: the letters c, the ledger, the names; the names in stored may hold anything -/
def RgJ {σ : Type} (Led : σ → List (Addr × Obj)) (ps : σ → List (Str × Value)) (P : Nat → σ → Prop) (stored : List Str) (m₀ : Str → Option Value) (i : Nat) (m : Str → Option Value) (nx : List (Addr × Obj)) : Prop :=
  ∃ c : σ, nx = Led c ∧ (∀ p ∈ ps c, m p.1 = some p.2) ∧ (∀ z, (∀ p ∈ ps c, z ≠ p.1) → stored.contains z = false → m z = m₀ z) ∧ P i c
theorem rg_end {σ : Type} {h₀ h' : Heap} {L : Addr} {s₁ : Shared} {Led : σ → List (Addr × Obj)} {ps : σ → List (Str × Value)} {P : Nat → σ → Prop} {stored : List Str} {m₀ m' : Str → Option Value} {i : Nat} {own news' : List (Addr × Obj)} {tk : Nat} (c : σ)
    (F : Fr h₀ L h' m') (N : News h₀ L h' news') (hs : ∀ p ∈ Led c, p ∈ news') (ho : ∀ p ∈ own, p ∈ news') (hoff : OwnOff own ((Led c).map (·.1))) (hk : ∀ p ∈ ps c, m' p.1 = some p.2) (hr : ∀ z, (∀ p ∈ ps c, z ≠ p.1) → stored.contains z = false → m' z = m₀ z) (hP : P (i + 1) c) :
    InvEndG h₀ L (RgJ Led ps P stored m₀ (i + 1)) own s₁ { s₁ with heap := h', toks := tk } :=
  ⟨h', tk, m', news', Led c, rfl, F, N, hs, ho, hoff, c, rfl, hk, hr, hP⟩

theorem unr_ind {prog : Program} {w : World} {A : Around} {E : Value → Shared → Prop} {Q : Flow → Shared → Prop} {s : Shared} {env : Env} {h₀ : Heap} {target : PySem.Expr} {body : List Stmt} {P : Nat → Value → Prop} {fp : List Addr} {n : Nat} (J : Nat → (Str → Option Value) → List (Addr × Obj) → Prop)
    (turn : ∀ i m₁ nx v h tk own, i < n → P i v → (∀ p ∈ own, p.1 ∈ fp) → J i m₁ nx → Fr h₀ env.locals h m₁ → News h₀ env.locals h (own ++ nx) →
      wpAny (model prog w) A (assign target env v) (fun _ s₂ => wpAny (model prog w) A (execs body env) (LoopStep3 h₀ env.locals own nx (J (i + 1)) { s with heap := h, toks := tk } (fun v s' => Q (.ret v) s') fun s' => Q .next s') E s₂) E { s with heap := h, toks := tk })
    (done : ∀ m₁ nx h tk, J n m₁ nx → Fr h₀ env.locals h m₁ → News h₀ env.locals h nx → Q .next { s with heap := h, toks := tk }) :
    ∀ (k i : Nat) (m₁ : Str → Option Value) (nx : List (Addr × Obj)), i + k = n → J i m₁ nx → Unr prog w A E h₀ env target body Q P fp s k i m₁ nx := by
  intro k
  induction k with
  | zero =>
    intro i m₁ nx e hJ h tk F N
    have e' : i = n := e
    exact done m₁ nx h tk (e' ▸ hJ) F N
  | succ k ih =>
    intro i m₁ nx e hJ v h tk own hP hf F N
    refine wpAny_mono (turn i m₁ nx v h tk own (by omega) hP hf hJ F N) (fun _ s₂ h₂ => wpAny_mono h₂ (fun f s₃ h₃ => ?_) fun _ _ x => x) fun _ _ x => x
    cases f with
    | ret v => exact h₃
    | brk => exact h₃
    | cont =>
      obtain ⟨e0, h₃', tk₃, m₂, news₂, e1, F₃, N₃, ha₃, hJ₃⟩ := h₃
      exact ⟨e0, h₃', tk₃, m₂, news₂, e1, F₃, N₃, ha₃, ih (i + 1) m₂ news₂ (by omega) hJ₃⟩
    | next =>
      obtain ⟨e0, h₃', tk₃, m₂, news₂, e1, F₃, N₃, ha₃, hJ₃⟩ := h₃
      exact ⟨e0, h₃', tk₃, m₂, news₂, e1, F₃, N₃, ha₃, ih (i + 1) m₂ news₂ (by omega) hJ₃⟩

theorem for_range {σ : Type} {prog : Program} {w : World} {A : Around} {E : Value → Shared → Prop} {Q : Flow → Shared → Prop} {s : Shared} {env : Env} {h₀ : Heap} {L : Addr} {x : Str} {px : Pos} {body : List Stmt} {m₀ : Str → Option Value} {Lg : Led} {r : Addr} {a b : Int} {t u v : Tok} {n : Nat}
    (Led : σ → List (Addr × Obj)) (ps : σ → List (Str × Value)) (P : Nat → σ → Prop) (stored : List Str) (c₀ : σ)
    (hL : env.locals = L) (hh : A.handled = none) (hr : IsRange s.heap r a b 1 t u v) (hsm : Builtin.Range.small a b 1 = true) (hsz : Builtin.Range.rangeSize a b 1 = (n : Int)) (F : Fr h₀ L s.heap m₀) (N : News h₀ L s.heap Lg)
    (hk : ∀ p ∈ ps c₀, m₀ p.1 = some p.2) (h0 : ∀ e ∈ Led c₀, e ∈ Lg) (hadr : ∀ c c', (Led c).map (·.1) = (Led c').map (·.1)) (hP : P 0 c₀)
    (turn : ∀ (i : Nat) (c : σ) (tv : Tok) (own : List (Addr × Obj)) (h : Heap) (tk : Nat) (v : Str → Option Value), i < n → P i c → OwnOff own ((Led c).map (·.1)) → Fr h₀ L h (kstB (fun z => if stored.contains z then v z else m₀ z) (ps c)) → News h₀ L h (Led c ++ own) →
      wpAny (model prog w) A (assign (.Name x px) env (.int (a + (i : Int)) tv)) (fun _ s₂ => wpAny (model prog w) A (execs body env) (InvPostG h₀ L (RgJ Led ps P stored m₀ (i + 1)) own { s with heap := h, toks := tk } Q) E s₂) E { s with heap := h, toks := tk })
    (done : ∀ (c : σ) (h : Heap) (tk : Nat) (v : Str → Option Value), P n c → Fr h₀ L h (kstB (fun z => if stored.contains z then v z else m₀ z) (ps c)) → News h₀ L h (Led c) → Q .next { s with heap := h, toks := tk }) :
    wpAny (model prog w) A (pyIter (.ref r)) (fun it s₂ => UnrAt prog w A h₀ env (.Name x px) body Q E it s₂) E s := by
  subst hL
  refine wpAny_pyIter_range hr hsm ?_
  have hIlt : ∀ p ∈ Led c₀, p.1 < s.heap.objs.size := fun p hp => Heap.lt_size (N p (h0 p hp)).1
  have hoffI : ∀ c, ∀ b ∈ (Led c).map (·.1), b ≠ s.heap.objs.size := fun c b hb => by
    rw [hadr c c₀] at hb
    obtain ⟨p, hp, rfl⟩ := List.mem_map.mp hb
    exact Nat.ne_of_lt (hIlt p hp)
  refine ⟨_, _, _, n, _, _, m₀, Led c₀, rfl, LCg.range_walks (I := s.heap.objs.size) hh a n, ?_, ?_, ?_, ?_, F.push _, fun p hp => ⟨Heap.get?_push_of_some _ (N p (h0 p hp)).1, (N p (h0 p hp)).2⟩, fun i s' v Q' _ hQ' => wpAny_pure hQ', ?_⟩
  · intro hm
    exact absurd F.ns.lt (by rw [List.mem_singleton.mp hm]; exact Nat.lt_irrefl _)
  · intro b hb
    rw [List.mem_singleton.mp hb]
    exact next_is_new F
  · intro p hp hI
    exact Nat.ne_of_lt (hIlt p hp) (List.mem_singleton.mp hI)
  · show IsRangeIter _ _ _ _ _
    rw [hsz]
    simpa using Heap.get?_push_size _ rfl
  · refine unr_ind (fun i m nx => RgJ Led ps P stored m₀ i m nx) ?_ ?_ n 0 m₀ (Led c₀) (Nat.zero_add n) ⟨c₀, rfl, hk, fun _ _ _ => rfl, hP⟩
    · rintro i m₁ nx v h tk own hi ⟨tv, rfl⟩ hf ⟨c, rfl, g1, g2, g3⟩ F₁ N₁
      have hoff : OwnOff own ((Led c).map (·.1)) := fun p hp b hb e => hoffI c b hb (e ▸ List.mem_singleton.mp (hf p hp))
      have N₂ : News h₀ env.locals h (Led c ++ own) := fun p hp => N₁ p ((List.mem_append.mp hp).elim (fun h => List.mem_append.mpr (.inr h)) fun h => List.mem_append.mpr (.inl h))
      refine wpAny_mono (turn i c tv own h tk m₁ hi g3 hoff (ksw_fr g1 g2 F₁) N₂) (fun _ s₂ h₂ => wpAny_mono h₂ (fun f s₃ p => ?_) fun _ _ x => x) fun _ _ x => x
      have fin : InvEndG h₀ env.locals (RgJ Led ps P stored m₀ (i + 1)) own { s with heap := h, toks := tk } s₃ → LoopStep2 h₀ env.locals own (Led c) (RgJ Led ps P stored m₀ (i + 1)) { s with heap := h, toks := tk } .next s₃ := by
        rintro ⟨h', tk', m', news', nx, e, F', N', hn, ho, _, hJ⟩
        refine ⟨rfl, h', tk', m', nx, e, F', fun p hp => ?_, ?_, hJ⟩
        · rcases List.mem_append.mp hp with hp | hp
          · exact N' p (ho p hp)
          · exact N' p (hn p hp)
        · obtain ⟨c', rfl, _⟩ := hJ
          exact hadr _ _
      cases f with
      | ret v => exact p
      | brk => exact p
      | next => exact fin p
      | cont => exact fin p
    · rintro m₁ nx h tk ⟨c, rfl, g1, g2, g3⟩ F₁ N₁
      exact done c h tk m₁ g3 (ksw_fr g1 g2 F₁) N₁

theorem comp_ind {prog : Program} {w : World} {A : Around} {h₀ : Heap} {L : Addr} {m : Str → Option Value} {env : Env} {ct elt : PySem.Expr} {x : Str} {scope : Scope} {cl : List (Str × Addr)} {s : Shared} {S : Led → Prop} {P : Nat → Value → Prop} {Fin : List Value → Led → Prop} {n : Nat} {news : Led} (J : Nat → List Value → Prop)
    (turn : ∀ k i ys, i + (k + 1) = n → J i ys → (∀ ys', J (i + 1) ys' → LCt.CompRestT prog w A h₀ L m env ct elt x scope cl s S P Fin k (i + 1) ys' news) → LCt.CompRestT prog w A h₀ L m env ct elt x scope cl s S P Fin (k + 1) i ys news)
    (fin : ∀ ys, J n ys → Fin ys news) : ∀ k i ys, i + k = n → J i ys → LCt.CompRestT prog w A h₀ L m env ct elt x scope cl s S P Fin k i ys news := by
  intro k
  induction k with
  | zero =>
    intro i ys e hJ
    have e' : i = n := e
    exact LCt.CompRestT.zero (fin ys (e' ▸ hJ))
  | succ k ih => exact fun i ys e hJ => turn k i ys e hJ fun ys' hJ' => ih (i + 1) ys' (by omega) hJ'

/-- the found ones are pairs of ints of the ledger -/
def Hits (news : Led) (ys : List Value) : Prop := ∃ ds, DatAll news ys ds ∧ ∀ d ∈ ds, kqdOk 8 d = true
theorem Hits.nil {news : Led} : Hits news [] := ⟨[], .nil, fun _ h => nomatch h⟩
theorem Hits.snoc {news : Led} {ys : List Value} {a : Addr} {n : Nat} {x y : Int} {t u : Tok} (h : Hits news ys) (hm : (a, tupO [.int x t, .int y u] n) ∈ news) : Hits news (ys ++ [.ref a]) := by
  obtain ⟨ds, h1, h2⟩ := h
  refine ⟨ds ++ [.tuple [.int x, .int y]], h1.append (DatAll.one (.tuple hm (.cons (.int _ _) (.cons (.int _ _) .nil)))), fun d hd => ?_⟩
  rcases List.mem_append.mp hd with hd | hd
  · exact h2 d hd
  · rw [List.mem_singleton.mp hd]; rfl
theorem eq_nil_false {prog : Program} {w : World} {A : Around} {E : Value → Shared → Prop} {s : Shared} {h₀ : Heap} {L : Addr} {news Lg : Led} {a b : Addr} {oa ob : Obj} {ys : List Value} {ka kb : Nat} {Q : Value → Shared → Prop} (N : News h₀ L s.heap news) (ma : (a, oa) ∈ news) (mb : (b, ob) ∈ news) (hH : Hits Lg ys) (hne : ys ≠ [])
    (ca : oa.cls = .type "list") (da : oa.data = .seq ys.toArray ka) (cb : ob.cls = .type "list") (db : ob.data = .seq ([] : List Value).toArray kb) (hs : ∀ p ∈ Lg, p ∈ news) (hu : A.units + 64 < cLine) (h : Q (.bool false) s) :
    wpAny (model prog w) A (compareOp .Eq (.ref a) (.ref b)) Q E s := by
  obtain ⟨ds, h1, h2⟩ := hH
  have hd : ds ≠ [] := fun e => hne (List.length_eq_zero_iff.mp (by rw [h1.length, e]; rfl))
  refine kqd_eq N ma ca da h1 hs mb cb db DatAll.nil (news := news) (n₂ := news) (fun _ h => h) h2 (fun _ h => nomatch h) hu ?_
  have e : ¬ ds = [] := hd
  simpa [e] using h
theorem itemAt {prog : Program} {w : World} {A : Around} {E : Value → Shared → Prop} {s : Shared} {h₀ : Heap} {L : Addr} {news : Led} {value slice : PySem.Expr} {l : Addr} {vs : List Value} {nn : Nat} {k : Int} {u : Tok} {v : Value} {Q : Value → Shared → Prop}
    (N : News h₀ L s.heap news) (hm : (l, listOf vs.toArray nn) ∈ news) (h0 : 0 ≤ k) (hhi : k < 2 ^ 63) (hx : vs[k.toNat]? = some v) (h : Q v s)
    (hs : subscripted slice false (.ref l) (.int k u) = operate [.ref l, .int k u] (getItem (.ref l) (.int k u)) := by with_unfolding_all rfl) :
    wpAny (model prog w) A (subscriptTail value slice (.ref l) (.int k u)) Q E s :=
  have hl : s.heap.IsList l vs.toArray := ⟨_, (N _ hm).1, rfl, nn, rfl⟩
  tail_any hl.typeIs slot_list_getitem.lookup (wpAny_getItem_list hl h0 hhi (by simpa using hx) h) hs

def vahOk (p q : Int) : List (Int × Int) → Bool
  | c :: d :: r => small c.2 && small d.2 && (closeZ p q d.1 d.2 || closeZ p q c.1 c.2) && vahOk p q (d :: r)
  | _ => true
theorem vah_get {p q : Int} : ∀ {cs : List (Int × Int)} {i : Nat}, vahOk p q cs = true → ∀ (h : i + 1 < cs.length), (cs[i + 1].2).natAbs < 1073741824 ∧ (cs[i].2).natAbs < 1073741824 ∧ (closeZ p q cs[i + 1].1 cs[i + 1].2 = false → closeZ p q cs[i].1 cs[i].2 = true)
  | c :: d :: r, 0, h, _ => by
    unfold vahOk at h
    simp only [Bool.and_eq_true, Bool.or_eq_true, small_iff] at h
    exact ⟨h.1.1.2, h.1.1.1, fun e => h.1.2.resolve_left (by have e' : closeZ p q d.1 d.2 = false := e; rw [e']; exact Bool.false_ne_true)⟩
  | c :: d :: r, i + 1, h, hl => by
    unfold vahOk at h
    simp only [Bool.and_eq_true] at h
    exact vah_get (i := i) h.2 (by simpa using hl)
  | [_], _, _, hl => absurd hl (by simp)
  | [], _, _, hl => absurd hl (by simp)
structure VahAt (p q : Int) (news : Led) (vs : List Value) (i : Nat) (a1 a0 : Addr) (n1 n0 : Nat) (t1 u1 t0 u0 : Tok) (x1 y1 x0 y0 : Int) : Prop where
  v1 : vs[(1 + (i : Int)).toNat]? = some (.ref a1)
  m1 : (a1, tupO [.int x1 t1, .int y1 u1] n1) ∈ news
  v0 : vs[(1 + (i : Int) - 1).toNat]? = some (.ref a0)
  m0 : (a0, tupO [.int x0 t0, .int y0 u0] n0) ∈ news
  s1 : y1.natAbs < 1073741824
  s0 : y0.natAbs < 1073741824
  c : closeZ p q x1 y1 = false → closeZ p q x0 y0 = true
theorem vah_at {p q : Int} {news : Led} {vs : List Value} {cs : List (Int × Int)} (hv : vahOk p q cs = true) (hp : Pairs news vs cs) {i : Nat} (hi : i < ((cs.length : Int) - 1).toNat) :
    ∃ a1 a0 n1 n0 t1 u1 t0 u0 x1 y1 x0 y0, VahAt p q news vs i a1 a0 n1 n0 t1 u1 t0 u0 x1 y1 x0 y0 := by
  have h1 : i + 1 < cs.length := by omega
  obtain ⟨s1, s0, c⟩ := vah_get hv h1
  obtain ⟨a1, n1, t1, u1, e1, m1⟩ := hp.get (List.getElem?_eq_getElem h1)
  obtain ⟨a0, n0, t0, u0, e0, m0⟩ := hp.get (List.getElem?_eq_getElem (show i < cs.length by omega))
  refine ⟨a1, a0, n1, n0, t1, u1, t0, u0, _, _, _, _, ?_, m1, ?_, m0, s1, s0, c⟩
  · rw [← e1]; congr 1; omega
  · rw [← e0]; congr 1; omega

def legOk (p q : Int) (cs : List (Int × Int)) : Bool :=
  cs.all (fun c => small c.1 && small c.2) && (List.range (if 24 < q then 24 else q).toNat).all fun i =>
    let b := 1 + (i : Int)
    let low := (p * b).fdiv q
    (!closeZ p q low b || cs.any fun c => c.1 * b == low * c.2) && (!closeZ p q (low + 1) b || cs.any fun c => c.1 * b == (low + 1) * c.2)
theorem leg_at {p q : Int} {cs : List (Int × Int)} (h : legOk p q cs = true) {i : Nat} (hi : i < (if 24 < q then 24 else q).toNat) :
    (closeZ p q ((p * (1 + (i : Int))).fdiv q) (1 + (i : Int)) = true → ∃ c ∈ cs, c.1 * (1 + (i : Int)) = (p * (1 + (i : Int))).fdiv q * c.2) ∧
    (closeZ p q ((p * (1 + (i : Int))).fdiv q + 1) (1 + (i : Int)) = true → ∃ c ∈ cs, c.1 * (1 + (i : Int)) = ((p * (1 + (i : Int))).fdiv q + 1) * c.2) := by
  unfold legOk at h
  simp only [Bool.and_eq_true, List.all_eq_true, List.mem_range, Bool.or_eq_true, Bool.not_eq_true', List.any_eq_true, beq_iff_eq] at h
  obtain ⟨h1, h2⟩ := h.2 i hi
  exact ⟨fun e => h1.resolve_left (by rw [e]; simp), fun e => h2.resolve_left (by rw [e]; simp)⟩
theorem leg_small {p q : Int} {cs : List (Int × Int)} (h : legOk p q cs = true) : ∀ c ∈ cs, c.1.natAbs < 1073741824 ∧ c.2.natAbs < 1073741824 := by
  unfold legOk at h
  simp only [Bool.and_eq_true, List.all_eq_true, small_iff] at h
  exact h.1

theorem comp_pairs {prog : Program} {w : World} {A : Around} {h₀ : Heap} {L : Addr} {m : Str → Option Value} {env : Env} {ct elt : PySem.Expr} {x : Str} {scope : Scope} {cl : List (Str × Addr)} {s : Shared} {S : Led → Prop} {Fin : List Value → Led → Prop} {news Lg : Led} {vs : List Value} {cs : List (Int × Int)} (hp : Pairs news vs cs) (J : Nat → List Value → Prop) (h0 : J 0 [])
    (turn : ∀ (k j : Nat) (ys : List Value) (d : Int × Int) (a : Addr) (n : Nat) (t u : Tok), cs.drop j = d :: cs.drop (j + 1) → d ∈ cs → J j ys → (a, tupO [.int d.1 t, .int d.2 u] n) ∈ news →
      (∀ ys', J (j + 1) ys' → LCt.CompRestT prog w A h₀ L m env ct elt x scope cl s S (fun i v => vs.toArray[i]? = some v) Fin k (j + 1) ys' Lg) →
      ∀ (I : Addr) (oI : Obj) (C : Addr) (oC : Obj) (D : Addr) (m₂ : Str → Option Value) (h : Heap) (tk : Nat) (E' : Value → Shared → Prop), LCg.NsObj oC m₂ → m₂ x = some (.ref a) → Fr h₀ L h m → News h₀ L h ((I, oI) :: (C, oC) :: (D, LCg.lst ys) :: Lg) → LCg.Off3 I C D Lg → ((@Ne Nat I C) ∧ (@Ne Nat I D) ∧ (@Ne Nat C D)) →
      wpAny (model prog w) A (isTrue ct (compEnvC scope cl C env) (eval ct (compEnvC scope cl C env))) (fun ok s' => if ok = true then
        wpAny (model prog w) A (eval elt (compEnvC scope cl C env)) (LCg.CompEnd h₀ L m { s with heap := h, toks := tk } I oI C oC D (LCg.lst ys) S (fun y news' => LCt.CompRestT prog w A h₀ L m env ct elt x scope cl s S (fun i v => vs.toArray[i]? = some v) Fin k (j + 1) (ys ++ [y]) news')) E' s'
        else LCg.CompEnd h₀ L m { s with heap := h, toks := tk } I oI C oC D (LCg.lst ys) S (fun _ news' => LCt.CompRestT prog w A h₀ L m env ct elt x scope cl s S (fun i v => vs.toArray[i]? = some v) Fin k (j + 1) ys news') Value.none s') E' { s with heap := h, toks := tk })
    (fin : ∀ ys, J cs.length ys → Fin ys Lg) : LCt.CompRestT prog w A h₀ L m env ct elt x scope cl s S (fun i v => vs.toArray[i]? = some v) Fin vs.toArray.size 0 [] Lg := by
  refine comp_ind (n := cs.length) J ?_ fin _ 0 [] (by rw [List.size_toArray, hp.length]; exact Nat.zero_add _) h0
  intro k j ys e hJ IH
  have hj : j < cs.length := by omega
  obtain ⟨a, n, t, u, hx, hm⟩ := hp.get (List.getElem?_eq_getElem hj)
  refine LCt.CompRestT.succ ?_
  intro v I oI C oC D m₂ h tk E' hPv hC hxx F N off ne
  have ev : v = .ref a := by
    have : vs[j]? = some v := by simpa using hPv
    rw [hx] at this
    exact (Option.some.inj this).symm
  subst ev
  exact turn k j ys _ a n t u (List.drop_eq_getElem_cons hj) (List.getElem_mem hj) hJ hm IH I oI C oC D m₂ h tk E' hC hxx F N off ne

/-- between the turns of the search: what is found are pairs; something is found, or it lies ahead -/
structure HJ (news : Led) (cs : List (Int × Int)) (b top : Int) (j : Nat) (ys : List Value) : Prop where
  hits : Hits news ys
  here : ys ≠ [] ∨ ∃ c ∈ cs.drop j, c.1 * b = top * c.2
theorem HJ.start {news : Led} {cs : List (Int × Int)} {b top : Int} (h : ∃ c ∈ cs, c.1 * b = top * c.2) : HJ news cs b top 0 [] := ⟨.nil, .inr h⟩
theorem HJ.hit {news : Led} {cs : List (Int × Int)} {b top : Int} {j : Nat} {ys : List Value} {a : Addr} {n : Nat} {x y : Int} {t u : Tok} (h : HJ news cs b top j ys) (hm : (a, tupO [.int x t, .int y u] n) ∈ news) : HJ news cs b top (j + 1) (ys ++ [.ref a]) :=
  ⟨h.hits.snoc hm, .inl (by simp)⟩
theorem HJ.miss {news : Led} {cs : List (Int × Int)} {b top : Int} {j : Nat} {ys : List Value} {d : Int × Int} (h : HJ news cs b top j ys) (hd : cs.drop j = d :: cs.drop (j + 1)) (hne : d.1 * b ≠ top * d.2) : HJ news cs b top (j + 1) ys := by
  refine ⟨h.hits, h.here.imp id fun ⟨c, hc, e⟩ => ?_⟩
  rw [hd] at hc
  rcases List.mem_cons.mp hc with rfl | hc
  · exact absurd e hne
  · exact ⟨c, hc, e⟩
theorem HJ.fin {news : Led} {cs : List (Int × Int)} {b top : Int} {ys : List Value} (h : HJ news cs b top cs.length ys) : ys ≠ [] := by
  rcases h.here with h | ⟨c, hc, _⟩
  · exact h
  · rw [List.drop_length] at hc; cases hc

theorem cellOff {news own : Led} {as : List Addr} {L' c : Addr} (hl : AllLt L' news) (hc : L' < c) (hoff : OwnOff own as) (hm : c ∈ as) : ∀ p ∈ news ++ own, p.1 ≠ c := fun p hp => by
  rcases List.mem_append.mp hp with hp | hp
  · exact Nat.ne_of_lt (Nat.lt_trans (ktn_ltOf hl p hp) hc)
  · exact hoff p hp c hm

theorem for_two {σ : Type} {prog : Program} {w : World} {A : Around} {E : Value → Shared → Prop} {Q : Flow → Shared → Prop} {s : Shared} {env : Env} {h₀ : Heap} {L : Addr} {x : Str} {px : Pos} {body : List Stmt} {m₀ : Str → Option Value} {Lg : Led} {tp : Addr} {v1 v2 : Value} {nt : Nat}
    (Led : σ → List (Addr × Obj)) (ps : σ → List (Str × Value)) (P : Nat → σ → Prop) (stored : List Str) (c₀ : σ)
    (hL : env.locals = L) (hh : A.handled = none) (F : Fr h₀ L s.heap m₀) (N : News h₀ L s.heap Lg) (hm : (tp, tupO [v1, v2] nt) ∈ Lg)
    (hk : ∀ p ∈ ps c₀, m₀ p.1 = some p.2) (h0 : ∀ e ∈ Led c₀, e ∈ Lg) (hadr : ∀ c c', (Led c).map (·.1) = (Led c').map (·.1)) (hP : P 0 c₀) (hlt : AllLt tp (Led c₀))
    (turn : ∀ (i : Nat) (c : σ) (v : Value) (own : List (Addr × Obj)) (h : Heap) (tk : Nat) (u : Str → Option Value), (v = v1 ∨ v = v2) → P i c → OwnOff own ((Led c).map (·.1)) → Fr h₀ L h (kstB (fun z => if stored.contains z then u z else m₀ z) (ps c)) → News h₀ L h (Led c ++ own) →
      wpAny (model prog w) A (assign (.Name x px) env v) (fun _ s₂ => wpAny (model prog w) A (execs body env) (InvPostG h₀ L (RgJ Led ps P stored m₀ (i + 1)) own { s with heap := h, toks := tk } Q) E s₂) E { s with heap := h, toks := tk })
    (done : ∀ (c : σ) (h : Heap) (tk : Nat) (u : Str → Option Value), P 2 c → Fr h₀ L h (kstB (fun z => if stored.contains z then u z else m₀ z) (ps c)) → News h₀ L h (Led c) → Q .next { s with heap := h, toks := tk }) :
    wpAny (model prog w) A (pyIter (.ref tp)) (fun it s₂ => UnrAt prog w A h₀ env (.Name x px) body Q E it s₂) E s := by
  subst hL
  have hIlt : ∀ p ∈ Led c₀, p.1 < s.heap.objs.size := fun p hp => Heap.lt_size (N p (h0 p hp)).1
  have hoffI : ∀ c, ∀ b ∈ (Led c).map (·.1), b ≠ s.heap.objs.size ∧ b ≠ tp := fun c b hb => by
    rw [hadr c c₀] at hb
    obtain ⟨p, hp, rfl⟩ := List.mem_map.mp hb
    exact ⟨Nat.ne_of_lt (hIlt p hp), Nat.ne_of_lt (ktn_ltOf hlt p hp)⟩
  have ht : IsTup s.heap tp #[v1, v2] := ⟨_, (N _ hm).1, rfl, nt, rfl⟩
  refine Iter_tuple_unr hh ht F (fun e he => N e (h0 e he)) (N _ hm).2.1 ?_
  refine unr_ind (fun i m nx => RgJ Led ps P stored m₀ i m nx) ?_ ?_ 2 0 m₀ (Led c₀) rfl ⟨c₀, rfl, hk, fun _ _ _ => rfl, hP⟩
  · rintro i m₁ nx v h tk own hi hv hf ⟨c, rfl, g1, g2, g3⟩ F₁ N₁
    have hv' : v = v1 ∨ v = v2 := by
      have hv2 : (#[v1, v2] : Array Value)[i]? = some v := hv
      match i, hi, hv2 with
      | 0, _, e => exact .inl (Option.some.inj e).symm
      | 1, _, e => exact .inr (Option.some.inj e).symm
    have hoff : OwnOff own ((Led c).map (·.1)) := fun p hp b hb e => by
      rcases List.mem_cons.mp (hf p hp) with h | h
      · exact (hoffI c b hb).1 (e ▸ h)
      · exact (hoffI c b hb).2 (e ▸ List.mem_singleton.mp h)
    have N₂ : News h₀ env.locals h (Led c ++ own) := fun p hp => N₁ p ((List.mem_append.mp hp).elim (fun h => List.mem_append.mpr (.inr h)) fun h => List.mem_append.mpr (.inl h))
    refine wpAny_mono (turn i c v own h tk m₁ hv' g3 hoff (ksw_fr g1 g2 F₁) N₂) (fun _ s₂ h₂ => wpAny_mono h₂ (fun f s₃ p => ?_) fun _ _ x => x) fun _ _ x => x
    have fin : InvEndG h₀ env.locals (RgJ Led ps P stored m₀ (i + 1)) own { s with heap := h, toks := tk } s₃ → LoopStep2 h₀ env.locals own (Led c) (RgJ Led ps P stored m₀ (i + 1)) { s with heap := h, toks := tk } .next s₃ := by
      rintro ⟨h', tk', m', news', nx, e, F', N', hn, ho, _, hJ⟩
      refine ⟨rfl, h', tk', m', nx, e, F', fun p hp => ?_, ?_, hJ⟩
      · rcases List.mem_append.mp hp with hp | hp
        · exact N' p (ho p hp)
        · exact N' p (hn p hp)
      · obtain ⟨c', rfl, _⟩ := hJ
        exact hadr _ _
    cases f with
    | ret v => exact p
    | brk => exact p
    | next => exact fin p
    | cont => exact fin p
  · rintro m₁ nx h tk ⟨c, rfl, g1, g2, g3⟩ F₁ N₁
    exact done c h tk m₁ g3 (ksw_fr g1 g2 F₁) N₁
theorem ownAfter {news own own2 : Led} {as : List Addr} {c : Addr} (h : ∀ p ∈ news ++ own, p.1 ≠ c) (hoff : OwnOff own2 as) (hm : c ∈ as) : ∀ p ∈ (news ++ own) ++ own2, p.1 ≠ c := fun p hp => by
  rcases List.mem_append.mp hp with hp | hp
  · exact h p hp
  · exact hoff p hp c hm

local macro_rules | `(tactic| walk_at "exec For Name Call cons nil") => `(tactic| (k_here; (rename Fr _ _ _ _ => lF'); k_dflt (refine For_unrF lF' ?_ (by intro _; rfl))))
local macro_rules | `(tactic| walk_at "exec For Name Tuple cons nil") => `(tactic| (k_here; (rename Fr _ _ _ _ => lF'); k_dflt (refine For_unrF lF' ?_ (by intro _; rfl))))
local macro_rules | `(tactic| k_all) => `(tactic| assumption)
local macro_rules | `(tactic| walk_at "eval ListComp") => `(tactic| k_extra "listcomp")
local macro_rules | `(tactic| walk_at "CompSrcT") => `(tactic| k_extra "compsrc")
local macro_rules | `(tactic| walk_at "compareOp Eq ref ref") => `(tactic| k_extra "eqref")
local macro_rules | `(tactic| walk_at "pyIter ref") => `(tactic| k_extra "pyIter ref")
local macro_rules | `(tactic| walk_at "call builtin:len") => `(tactic| (k_here; (with_reducible show wpAny _ _ (call (Value.builtin "len") [Value.ref _]) _ _ _); k_dflt (refine kst_len (by k_asm) (by k_mem) (by assumption) (by omega) ?_)))
local macro_rules | `(tactic| walk_at "subscriptTail") => `(tactic| (k_here; (with_reducible show wpAny _ _ (subscriptTail _ _ (Value.ref _) (Value.int _ _)) _ _ _); k_dflt (refine itemAt (by k_asm) (by k_mem) (by omega) (by omega) (by assumption) ?_)))
set_option maxHeartbeats 8000000 in
theorem closeR_c (w : World) (mean : ExcName → Option Value) (mg mb : Str → Option Value) (news : Led) {x y : Addr} {n ny : Nat} {t u : Tok} {p q : Int} {vs : List Value} {cs : List (Int × Int)}
    (hx : (x, tupO [.int p t, .int q u] n) ∈ news) (hy : (y, listOf vs.toArray ny) ∈ news) (hp : Pairs news vs cs) (hps : p.natAbs < 1073741824) (hqs : q.natAbs < 1073741824) (hlen : cs.length ≤ 1000) (hq : 0 < q) (hvah : vahOk p q cs = true) (hleg : legOk p q cs = true) :
    Claim w mean mg mb 165 7 160 news [.ref x, .ref y] (PBool true) := by
  unfold Claim
  intro dp un gd cn scs a' ccd cl outer A₀ base h₀ L m s Q E B F X N T hk hd' hu hret
  have N2 := newsDup N hy
  clear N
  have hvl := hp.length
  have hsm := leg_small hleg
  refine wpAny_call ?_
  k_with_none
  w_top off
  k_with "mycall" => (k_here; (with_reducible show wpAny _ _ (call (Value.ref 41) _) _ _ _); k_dflt (refine useInt (by k_asm) (by k_asm) (by k_asm) (by k_asm) (by k_asm) (by (first | exact rfl | assumption)) (by ktr_room) (by ktr_units) (gcd_c _ _ _ _ _ _ _ _ _) ?_); intro t9 h9 tk9 F9 N9; (try dsimp only); (try k_fold))
  k_with "mycall" => (k_here; (with_reducible show wpAny _ _ (call (Value.ref 48) _) _ _ _); k_dflt (refine usePair (by k_asm) (by k_asm) (by k_asm) (by k_asm) (by k_asm) (by (first | exact rfl | assumption)) (by ktr_room) (by ktr_units) (rat_c _ _ _ _ _ _ _ _ _ (by (first | assumption | omega | k_extra "side")) (by (first | assumption | omega | k_extra "side"))) ?_); intro b9 n9 t9 u9 h9 tk9 F9 N9 l9; (try simp only [AllLt, and_true] at l9); (try dsimp only); (try k_fold))
  k_with "mycall" => (k_here; (with_reducible show wpAny _ _ (call (Value.ref 55) _) _ _ _); k_dflt (refine usePair (by k_asm) (by k_asm) (by k_asm) (by k_asm) (by k_asm) (by (first | exact rfl | assumption)) (by ktr_room) (by ktr_units) (rsub_c _ _ _ _ _ (by k_mem) (by k_mem) (by (first | assumption | omega | k_extra "side")) (by (first | assumption | omega | k_extra "side")) (by (first | assumption | omega | k_extra "side")) (by (first | assumption | omega | k_extra "side")) (by (first | assumption | omega | k_extra "side"))) ?_); intro b9 n9 t9 u9 h9 tk9 F9 N9 l9; (try simp only [AllLt, and_true] at l9); (try dsimp only); (try k_fold))
  k_with "mycall" => (k_here; (with_reducible show wpAny _ _ (call (Value.ref 62) _) _ _ _); k_dflt (refine usePair (by k_asm) (by k_asm) (by k_asm) (by k_asm) (by k_asm) (by (first | exact rfl | assumption)) (by ktr_room) (by ktr_units) (rneg_c _ _ _ _ _ (by k_mem)) ?_); intro b9 n9 t9 u9 h9 tk9 F9 N9 l9; (try simp only [AllLt, and_true] at l9); (try dsimp only); (try k_fold))
  k_with "mycall" => (k_here; (with_reducible show wpAny _ _ (call (Value.ref 69) _) _ _ _); k_dflt (refine usePair (by k_asm) (by k_asm) (by k_asm) (by k_asm) (by k_asm) (by (first | exact rfl | assumption)) (by ktr_room) (by ktr_units) (rinv_c _ _ _ _ _ (by k_mem) (by (first | assumption | omega | k_extra "side")) (by (first | assumption | omega | k_extra "side"))) ?_); intro b9 n9 t9 u9 h9 tk9 F9 N9 l9; (try simp only [AllLt, and_true] at l9); (try dsimp only); (try k_fold))
  k_with "mycall" => (k_here; (with_reducible show wpAny _ _ (call (Value.ref 76) _) _ _ _); k_dflt (refine useInt (by k_asm) (by k_asm) (by k_asm) (by k_asm) (by k_asm) (by (first | exact rfl | assumption)) (by ktr_room) (by ktr_units) (rcompare_c _ _ _ _ _ (by k_mem) (by k_mem) (by (first | assumption | omega | k_extra "side")) (by (first | assumption | omega | k_extra "side"))) ?_); intro t9 h9 tk9 F9 N9; (try dsimp only); (try k_fold))
  k_with "mycall" => (k_here; (with_reducible show wpAny _ _ (call (Value.ref 83) _) _ _ _); k_dflt (refine useInt (by k_asm) (by k_asm) (by k_asm) (by k_asm) (by k_asm) (by (first | exact rfl | assumption)) (by ktr_room) (by ktr_units) (rfloor_c _ _ _ _ _ (by k_mem) (by (first | assumption | omega | k_extra "side")) (by (first | assumption | omega | k_extra "side"))) ?_); intro t9 h9 tk9 F9 N9; (try dsimp only); (try k_fold))
  k_with "mycall" => (k_here; (with_reducible show wpAny _ _ (call (Value.ref 90) _) _ _ _); k_dflt (refine useInts (by k_asm) (by k_asm) (by k_asm) (by k_asm) (by k_asm) (by (first | exact rfl | assumption)) (by ktr_room) (by ktr_units) (frow_c _ _ _ _ _ (by k_mem) (by (first | assumption | k_extra "frow")) (by omega)) ?_); intro b9 n9 w9 h9 tk9 I9 F9 N9 l9; (try simp only [AllLt, and_true] at l9); (try dsimp only); (try k_fold))
  k_with "mycall" => (k_here; (with_reducible show wpAny _ _ (call (Value.ref 97) _) _ _ _); k_dflt (refine usePairs (by k_asm) (by k_asm) (by k_asm) (by k_asm) (by k_asm) (by (first | exact rfl | assumption)) (by ktr_room) (by ktr_units) (conv_c _ _ _ _ _ (by k_mem) (by assumption) (by (first | assumption | k_extra "conv")) (by (first | assumption | omega))) ?_); intro b9 n9 w9 tl9 h9 tk9 P9 F9 N9 l9 o9; (try simp only [AllLt, and_true] at l9); (try dsimp only); (try k_fold))
  k_with "mycall" => (k_here; (with_reducible show wpAny _ _ (call (Value.ref 111) _) _ _ _); k_dflt (refine useRef2f (by k_asm) (by k_asm) (by k_asm) (by k_asm) (by k_asm) (by (first | exact rfl | assumption)) (by ktr_room) (by ktr_units) (near_c _ _ _ _ _ (by k_mem) (by k_mem) (by k_mem) (by (first | assumption | k_extra "near" | omega)) (by (first | assumption | k_extra "near" | omega)) (by (first | assumption | k_extra "near" | omega)) (by (first | assumption | k_extra "near" | omega)) (by (first | assumption | k_extra "near" | omega)) (by (first | assumption | k_extra "near" | omega)) (by (first | assumption | k_extra "near" | omega)) (by (first | assumption | k_extra "near" | omega)) (by (first | assumption | k_extra "near" | omega)) (by (first | assumption | k_extra "near" | omega))) (by k_extra "nearF") ?_); intro h9 tk9 F9 N9; (try dsimp only); (try k_fold))
  k_with "mycall" => (k_here; (with_reducible show wpAny _ _ (call (Value.ref 111) _) _ _ _); k_dflt (refine useRef2t (by k_asm) (by k_asm) (by k_asm) (by k_asm) (by k_asm) (by (first | exact rfl | assumption)) (by ktr_room) (by ktr_units) (near_c _ _ _ _ _ (by k_mem) (by k_mem) (by k_mem) (by (first | assumption | k_extra "near" | omega)) (by (first | assumption | k_extra "near" | omega)) (by (first | assumption | k_extra "near" | omega)) (by (first | assumption | k_extra "near" | omega)) (by (first | assumption | k_extra "near" | omega)) (by (first | assumption | k_extra "near" | omega)) (by (first | assumption | k_extra "near" | omega)) (by (first | assumption | k_extra "near" | omega)) (by (first | assumption | k_extra "near" | omega)) (by (first | assumption | k_extra "near" | omega))) (by k_extra "nearT") ?_); intro h9 tk9 F9 N9; (try dsimp only); (try k_fold))
  k_with "mycall" => (k_here; (with_reducible show wpAny _ _ (call (Value.ref 160) _) _ _ _); k_dflt (refine useBool (by k_asm) (by k_asm) (by k_asm) (by k_asm) (by k_asm) (by (first | exact rfl | assumption)) (by ktr_room) (by ktr_units) (close_c _ _ _ _ _ (by k_mem) (by (first | assumption | omega | k_extra "side")) (by (first | assumption | omega | k_extra "side")) (by (first | assumption | omega | k_extra "side"))) ?_); intro h9 tk9 F9 N9; (try dsimp only); (try k_fold))
  k_with "mycall" => (k_here; (with_reducible show wpAny _ _ (call (Value.ref 125) _) _ _ _); k_dflt (refine useList (by k_asm) (by k_asm) (by k_asm) (by k_asm) (by k_asm) (by (first | exact rfl | assumption)) (by ktr_room) (by ktr_units) (settled_c _ _ _ _ _ (by k_mem) (by (first | assumption | repeat constructor)) (by (first | assumption | k_extra "settled0" | (intro hNil; cases hNil))) (by (first | assumption | k_extra "settled1" | (simp only [List.length_cons, List.length_nil]; omega)))) ?_); intro b9 n9 w9 h9 tk9 I9 F9 N9 O9; (try dsimp only); (try k_fold))
  k_with "mycall" => (k_here; (with_reducible show wpAny _ _ (call (Value.ref 132) _) _ _ _); k_dflt (refine useList (by k_asm) (by k_asm) (by k_asm) (by k_asm) (by k_asm) (by (first | exact rfl | assumption)) (by ktr_room) (by ktr_units) (minus_c _ _ _ _ _ (by k_mem) (by assumption) (by (first | assumption | k_extra "minus")) (by (first | assumption | omega | k_extra "minus")) (by (first | assumption | k_extra "minus"))) ?_); intro b9 n9 w9 h9 tk9 I9 F9 N9 O9; (try dsimp only); (try k_fold))
  k_with "mycall" => (k_here; (with_reducible show wpAny _ _ (call (Value.ref 139) _) _ _ _); k_dflt (refine useList (by k_asm) (by k_asm) (by k_asm) (by k_asm) (by k_asm) (by (first | exact rfl | assumption)) (by ktr_room) (by ktr_units) (over_c _ _ _ _ _ (by k_mem) (by assumption) (by (first | assumption | k_extra "over"))) ?_); intro b9 n9 w9 h9 tk9 I9 F9 N9 O9; (try dsimp only); (try k_fold))
  k_with "mycall" => (k_here; (with_reducible show wpAny _ _ (call (Value.ref 146) _) _ _ _); k_dflt (refine usePair (by k_asm) (by k_asm) (by k_asm) (by k_asm) (by k_asm) (by (first | exact rfl | assumption)) (by ktr_room) (by ktr_units) (value_c _ _ _ _ _ (by k_mem) (by assumption) (by (first | assumption | k_extra "value")) (by (first | assumption | k_extra "value")) (by (first | assumption | k_extra "value"))) ?_); intro b9 n9 t9 u9 h9 tk9 F9 N9 l9; (try simp only [AllLt, and_true] at l9); (try dsimp only); (try k_fold))
  k_with "mycall" => (k_here; (with_reducible show wpAny _ _ (call (Value.ref 118) _) _ _ _); k_dflt (refine useDraw (by k_asm) (by k_asm) (by k_asm) (by k_asm) (by k_asm) (by (first | exact rfl | assumption)) (by ktr_room) (by ktr_units) (draw_c _ _ _ _ _ (by walk_at "rst") (by k_mem) (by k_mem) (by k_ne) (by (first | assumption | k_extra "drawI")) (by (first | assumption | omega | k_extra "draw")) (by (first | assumption | omega | k_extra "draw")) (by (first | assumption | omega | k_extra "draw")) (by ((try simp only [List.length_map, List.length_take]); omega)) (by (first | assumption | omega | k_extra "draw"))) (by omega) ?_); intro y9 t9 u9 h9 tk9 lo9 hi9 F9 N9; (try dsimp only); (try k_fold))
  k_with "mycall" => (k_here; (with_reducible show wpAny _ _ (call (Value.ref 153) _) _ _ _); k_dflt (refine useBool (by k_asm) (by k_asm) (by k_asm) (by k_asm) (by k_asm) (by (first | exact rfl | assumption)) (by ktr_room) (by ktr_units) (sides_c _ _ _ _ _ (by k_mem) (by k_mem) (by (first | assumption | k_extra "pairs")) (by (first | assumption | omega | k_extra "side")) (by (first | assumption | omega | k_extra "side")) (by (first | assumption | k_extra "sides"))) ?_); intro h9 tk9 F9 N9; (try dsimp only); (try k_fold))
  k_with "pyIter ref" => k_dflt ((rename Fr _ _ _ _ => lF'); (rename News _ _ _ _ => lN'); (rename IsRange _ _ _ _ _ _ _ _ => rgX); k_dflt (refine for_range (x := Str.ofString "at") (σ := Unit) (fun _ => _) (fun _ => []) (fun _ _ => True) [Str.ofString "at"] () (by exact rfl) (by exact rfl) rgX (by exact small_one (by omega) (by omega) (by omega) (by omega)) (by exact rangeSize_nat _ _) lF' lN' (List.forall_mem_nil _) (fun _ h => h) (fun _ _ => rfl) trivial ?kt1 ?kd1); (case' kt1 => (intro i c tv own h tk v hi _ hoff F' N'; (obtain ⟨a1, a0, n1, n0, t1, u1, t0, u0, x1, y1, x0, y0, V⟩ := vah_at hvah hp hi); (obtain ⟨v1, m1, v0, m0, s1, s0, hcc⟩ := V); dsimp only [kstB] at F'; simp only [List.cons_append] at N'; clear lF' lN'; (try k_fold))); (case' kd1 => (intro c h tk v _ F' N'; dsimp only [kstB] at F'; clear lF' lN' rgX; (try k_fold))))
  k_with "pyIter ref" => k_dflt ((rename Fr _ _ _ _ => lF'); (rename News _ _ _ _ => lN'); (rename IsRange _ _ _ _ _ _ _ _ => rgX); k_dflt (refine for_range (x := Str.ofString "bottom") (σ := Obj × Obj) (fun c => (_, c.1) :: (_, c.2) :: (y, listOf vs.toArray ny) :: news) (fun _ => []) (fun _ c => (∃ v, c.1.data = Data.cell v) ∧ ∃ v, c.2.data = Data.cell v) [Str.ofString "low"] (_, _) (by exact rfl) (by exact rfl) rgX (by exact small_one (by omega) (by omega) (by omega) (by omega)) (by exact rangeSize_nat _ _) lF' lN' (List.forall_mem_nil _) (fun _ h => h) (fun _ _ => rfl) ⟨⟨_, by assumption⟩, ⟨_, by assumption⟩⟩ ?kt2 ?kd2); (case' kt2 => (intro i c tv own h tk v hi hP hoff F' N'; (obtain ⟨ob, ot⟩ := c); (obtain ⟨⟨w1, e1⟩, ⟨w2, e2⟩⟩ := hP); (have hi2 : i < 24 := by omega); (obtain ⟨hl1, hl2⟩ := leg_at hleg (show i < (if 24 < q then 24 else q).toNat by omega)); dsimp only [kstB] at F' N' e1 e2; simp only [List.cons_append] at N'; (have hA1 := cellOff (c := L' + 1 + 1) l1.2 (Nat.lt_succ_of_lt (Nat.lt_succ_self _)) hoff (.head _)); (have hA2 := cellOff (c := L' + 1) l1.2 (Nat.lt_succ_self _) hoff (.tail _ (.head _))); clear lF' lN'; (try k_fold))); (case' kd2 => (intro c h tk v _ F' N'; dsimp only [kstB] at F'; clear lF' lN' rgX; (try k_fold))))
  k_with "pyIter ref" => k_dflt ((rename Fr _ _ _ _ => lF'); (rename News _ _ _ _ => lN'); k_dflt (refine for_two (x := Str.ofString "top") (σ := Obj) (fun c => (_, c) :: (_, _) :: (y, listOf vs.toArray ny) :: (news ++ own)) (fun _ => []) (fun _ c => ∃ v, c.data = Data.cell v) [] _ (by exact rfl) (by exact rfl) lF' lN' (.head _) (List.forall_mem_nil _) (fun _ h => .tail _ h) (fun _ _ => rfl) ⟨_, by assumption⟩ (by assumption) ?kt3 ?kd3); (case' kt3 => (intro i2 c2 v own2 h tk w hv hP2 hoff2 F' N'; (obtain ⟨wt, et⟩ := hP2); (obtain ⟨top, tt, ev, htop⟩ : ∃ top tt, v = .int top tt ∧ (closeZ p q top (1 + (i : Int)) = true → ∃ c ∈ cs, c.1 * (1 + (i : Int)) = top * c.2) := by (rcases hv with rfl | rfl); (exact ⟨_, _, rfl, hl1⟩); (exact ⟨_, _, rfl, hl2⟩)); subst ev; dsimp only [kstB] at F' N' et; simp only [List.cons_append] at N'; (have hB1 := ownAfter hA1 hoff2 (.head _)); clear lF' lN'; (try k_fold))); (case' kd3 => (intro c h tk v hP3 F' N'; (obtain ⟨wt, et⟩ := hP3); dsimp only [kstB] at F'; clear lF' lN'; (try k_fold))))
  k_with "listcomp" => k_dflt (refine LCt.ListComp_T (F₀ := by k_asm) (by with_unfolding_all rfl) (by decide) (by rfl) (by decide) (by rfl) ?_)
  k_with "compsrc" => k_dflt ((have hE := htop (by assumption)); (rename Fr _ _ _ _ => lF'); (rename News _ _ _ _ => lN'); (refine LCt.CompSrcT.ledger (by rfl) lF' lN' (by k_mem) (by rw [List.size_toArray, hvl, sizeLine_eq]; omega) ?_); intro g5; (refine comp_pairs hp (HJ news cs (1 + (i : Int)) top) (HJ.start hE) ?kt4 ?kf4); (case' kt4 => (intro k5 j5 ys5 d5 a5 n5 t5 u5 hd5 hm5 hJ5 ha5 IH5 I5 oI5 C5 oC5 D5 m5 h5 tk5 E5 hC5 hx5 F5 N5 off5 ne5; (obtain ⟨sd1, sd2⟩ := hsm d5 hm5); (try k_fold))); (case' kf4 => (intro ys5 hJ5; (have hne5 := HJ.fin hJ5); (have hH5 := HJ.hits hJ5))))
  k_with "eqref" => k_dflt (refine eq_nil_false (by k_asm) (by k_mem) (by k_mem) hH5 hne5 rfl rfl rfl rfl (by kcj_all) (by ktr_units) ?_)
  k_dflt (refine' code_defC ?k1 ?k2 ?k3 ?k4 ?k5 ?kA ?kF ?kK ?k6 ?k7 ?k8 ?k9 ?kB ?kD ?_ ?c2 ?c3 ?c4; (case kA => exact rfl); (case kF => exact rfl); (case kK => assumption); (case k1 => k_asm); (case k2 => k_asm); (case k3 => k_asm); (case k4 => k_asm); (case k5 => k_asm); (case k6 => k_is); (case k7 => k_is); (case k8 => ktr_room); (case k9 => exact BindsTo.of_eq rfl); (case kB => exact rfl); (case kD => decide +kernel); (case c2 => exact rfl); (case c3 => exact rfl); (case c4 => exact rfl); k_whole; intro g' L' h' tk' cells' FG' F' N' Y' B' X' T' l1; (try k_lt l1); k_cells Y'; (try simp only [List.cons_append, List.nil_append] at N'); (try dsimp only); (try k_fold))
  k_steps
  all_goals first
    | exact endBool hret (by k_asm) (by assumption) (by kcj_all) rfl
    | exact (Bool.noConfusion ((hcc (by assumption)).symm.trans (by assumption : closeZ p q x0 y0 = false)))
    | exact LCg.CompEnd.intro (by assumption) (by assumption) _ (by kcj_all) off5 (.inr ⟨_, by k_mem, rfl, _, rfl⟩) (IH5 _ (HJ.hit hJ5 ha5))
    | exact LCg.CompEnd.intro (by assumption) (by assumption) _ (by kcj_all) off5 (.inr ⟨_, by k_mem, rfl, _, rfl⟩) (IH5 _ (HJ.miss hJ5 hd5 (by assumption)))
    | exact rg_end () (by assumption) (by assumption) (by kcj_all) (by kcj_all) (by exact hoff) (List.forall_mem_nil _) (by intro z _ h3; first | (simp only [List.contains_cons, List.contains_nil, Bool.or_false, beq_eq_false_iff_ne, ne_eq] at h3; simp [h3]; done) | (simp; done)) trivial
    | exact rg_end _ (by assumption) (by assumption) (by exact List.forall_mem_cons.mpr ⟨by k_mem, by kcj_all⟩) (by kcj_all) (by exact hoff2) (List.forall_mem_nil _) (by intro z _ h3; first | (simp only [List.contains_cons, List.contains_nil, Bool.or_false, beq_eq_false_iff_ne, ne_eq] at h3; simp [h3]; done) | (simp; done)) ⟨_, by assumption⟩
    | exact rg_end (_, _) (by assumption) (by assumption) (by exact List.forall_mem_cons.mpr ⟨by k_mem, List.forall_mem_cons.mpr ⟨by k_mem, by kcj_all⟩⟩) (by kcj_all) (by exact hoff) (List.forall_mem_nil _) (by intro z _ h3; first | (simp only [List.contains_cons, List.contains_nil, Bool.or_false, beq_eq_false_iff_ne, ne_eq] at h3; simp [h3]; done) | (simp; done)) ⟨⟨_, by assumption⟩, ⟨_, by assumption⟩⟩
end
local macro_rules | `(tactic| walk_at "none 9") => `(tactic| skip)
local macro_rules | `(tactic| walk_at "none 10") => `(tactic| skip)
local macro_rules | `(tactic| walk_at "none 11") => `(tactic| skip)
local macro_rules | `(tactic| walk_at "none 12") => `(tactic| skip)
local macro_rules | `(tactic| walk_at "none 13") => `(tactic| skip)
local macro_rules | `(tactic| walk_at "none 14") => `(tactic| skip)
local macro_rules | `(tactic| walk_at "none 15") => `(tactic| skip)
local macro_rules | `(tactic| walk_at "none 16") => `(tactic| skip)
local macro_rules | `(tactic| walk_at "none 17") => `(tactic| skip)

section
/-- what the law needs of a settled row -/
structure CutFacts (row : List Int) (p q : Int) (cs : List (Int × Int)) : Prop where
  conv : conv? 1 0 0 1 row = some cs
  len : cs.length = row.length
  last : cs[cs.length - 1]? = some (p, q)
  sides : sidesOk p q 1 0 (-1) p q cs = true
  vah : vahOk p q cs = true
  leg : legOk p q cs = true
  back : 1 < row.length → ∃ c : Int × Int, cs[cs.length - 2]? = some c ∧ frow? 60 q c.2 = some (settledZ (row.drop 1).reverse)
structure RowFacts (row : List Int) : Prop where
  ne : row ≠ []
  len : row.length ≤ 5
  sm : ∀ n ∈ row, n.natAbs < 1073741824
  q0 : 0 < (valueZ row).2
  ps : (valueZ row).1.natAbs < 1073741824
  qs : (valueZ row).2.natAbs < 1073741824
  f1 : frow? 60 (valueZ row).1 (valueZ row).2 = some row
  f2 : frow? 60 (0 - (valueZ row).1) (valueZ row).2 = some (minusZ row)
  mok : minusOk row = true
  f3 : (valueZ row).1 ≠ 0 → frow? 60 ((valueZ row).2.fdiv (ratG (valueZ row).2 (valueZ row).1)) ((valueZ row).1.fdiv (ratG (valueZ row).2 (valueZ row).1)) = some (overZ row)
  ov : (valueZ row).1 ≠ 0 → overOk row = true
  cut : ∃ cs, CutFacts row (valueZ row).1 (valueZ row).2 cs

/-- legOk with the distances reckoned in Nat -/
def legN (p : Int) (p' q : Nat) (cs : List (Int × Int)) : Nat → Nat → Bool
  | 0, _ => true
  | k + 1, b =>
    let m := Nat.mod (Nat.mul p' b) q
    (Nat.ble q (Nat.mul (Nat.mul 2 b) m) || (let low := (p * (b : Int)).fdiv (q : Int); cs.any fun c => c.1 * (b : Int) == low * c.2)) &&
    (Nat.ble q (Nat.mul (Nat.mul 2 b) (Nat.sub q m)) || (let low := (p * (b : Int)).fdiv (q : Int) + 1; cs.any fun c => c.1 * (b : Int) == low * c.2)) &&
    legN p p' q cs k (Nat.succ b)
def legB (p q : Int) (cs : List (Int × Int)) : Bool := cs.all (fun c => small c.1 && small c.2) && legN p (p.fmod q).toNat q.toNat cs (if Nat.ble 24 q.toNat then 24 else q.toNat) 1
theorem leg_mod {p : Int} {q b : Nat} (hq : 0 < q) : p * (b : Int) = (p * (b : Int)).fdiv (q : Int) * (q : Int) + ((((p.fmod (q : Int)).toNat * b) % q : Nat) : Int) := by
  have e1 : (p * (b : Int)).fdiv (q : Int) = (p * (b : Int)) / (q : Int) := Int.fdiv_eq_ediv_of_nonneg _ (Int.natCast_nonneg _)
  have e2 : p.fmod (q : Int) = p % (q : Int) := Int.fmod_eq_emod_of_nonneg _ (Int.natCast_nonneg _)
  have h0 : 0 ≤ p % (q : Int) := Int.emod_nonneg _ (by omega)
  have e3 : ((((p.fmod (q : Int)).toNat * b) % q : Nat) : Int) = (p * (b : Int)) % (q : Int) := by
    rw [Int.natCast_emod, Int.natCast_mul, e2, Int.toNat_of_nonneg h0]
    conv => rhs; rw [← Int.emod_add_mul_ediv p (q : Int), Int.add_mul, Int.mul_assoc, Int.add_mul_emod_self_left]
  rw [e1, e3]
  have := Int.emod_add_mul_ediv (p * (b : Int)) (q : Int)
  rw [Int.mul_comm (q : Int)] at this
  omega
theorem close_low {p low q b m : Int} (hm : p * b = low * q + m) (h0 : 0 ≤ m) (h : closeZ p q low b = true) : 2 * b * m < q := by
  unfold closeZ at h
  have hc := of_decide_eq_true h
  have e1 : absZ (low * q - p * b) = m := by
    have : low * q - p * b = -m := by omega
    rw [this]; unfold absZ; split <;> omega
  rw [e1] at hc
  exact hc
theorem close_high {p low q b m : Int} (hm : p * b = low * q + m) (h0 : m < q) (h : closeZ p q (low + 1) b = true) : 2 * b * (q - m) < q := by
  unfold closeZ at h
  have hc := of_decide_eq_true h
  have e1 : absZ ((low + 1) * q - p * b) = q - m := by
    have e2 : (low + 1) * q = low * q + q := by rw [Int.add_mul, Int.one_mul]
    have : (low + 1) * q - p * b = q - m := by omega
    rw [this]; unfold absZ; split <;> omega
  rw [e1] at hc
  exact hc
theorem legN_is {p : Int} {q : Nat} (hq : 0 < q) {cs : List (Int × Int)} : ∀ {k b : Nat}, legN p (p.fmod (q : Int)).toNat q cs k b = true → ∀ i, b ≤ i → i < b + k →
    (closeZ p q ((p * (i : Int)).fdiv q) i = true → (cs.any fun c => c.1 * (i : Int) == (p * (i : Int)).fdiv q * c.2) = true) ∧ (closeZ p q ((p * (i : Int)).fdiv q + 1) i = true → (cs.any fun c => c.1 * (i : Int) == ((p * (i : Int)).fdiv q + 1) * c.2) = true) := by
  intro k
  induction k with
  | zero => intro b _ i h1 h2; omega
  | succ k ih =>
    intro b h i h1 h2
    unfold legN at h
    simp only [Bool.and_eq_true, Bool.or_eq_true, Nat.ble_eq] at h
    obtain ⟨⟨ha, hb⟩, hr⟩ := h
    by_cases e : i = b
    · subst e
      have hm := leg_mod (p := p) (b := i) hq
      have hlt : ((p.fmod (q : Int)).toNat * i) % q < q := Nat.mod_lt _ hq
      refine ⟨fun hc => ha.resolve_left fun hn => ?_, fun hc => hb.resolve_left fun hn => ?_⟩
      · have h1 := close_low hm (Int.natCast_nonneg _) hc
        have hn' : q ≤ 2 * i * (((p.fmod (q : Int)).toNat * i) % q) := hn
        have : ((q : Nat) : Int) ≤ ((2 * i * (((p.fmod (q : Int)).toNat * i) % q) : Nat) : Int) := Int.ofNat_le.mpr hn'
        rw [Int.natCast_mul, Int.natCast_mul] at this
        exact absurd h1 (Int.not_lt.mpr this)
      · have h1 := close_high hm (Int.ofNat_lt.mpr hlt) hc
        have hn' : q ≤ 2 * i * (q - ((p.fmod (q : Int)).toNat * i) % q) := hn
        have : ((q : Nat) : Int) ≤ ((2 * i * (q - ((p.fmod (q : Int)).toNat * i) % q) : Nat) : Int) := Int.ofNat_le.mpr hn'
        rw [Int.natCast_mul, Int.natCast_mul, Int.natCast_sub (Nat.le_of_lt hlt)] at this
        exact absurd h1 (Int.not_lt.mpr this)
    · exact ih hr i (by omega) (by omega)
theorem legB_is {p q : Int} (hq : 0 < q) {cs : List (Int × Int)} (h : legB p q cs = true) : legOk p q cs = true := by
  unfold legB at h
  unfold legOk
  simp only [Bool.and_eq_true] at h ⊢
  refine ⟨h.1, List.all_eq_true.mpr fun i hi => ?_⟩
  have hi := List.mem_range.mp hi
  have hqn : 0 < q.toNat := by omega
  have eq : ((q.toNat : Nat) : Int) = q := Int.toNat_of_nonneg (Int.le_of_lt hq)
  have h2 : legN p (p.fmod ((q.toNat : Nat) : Int)).toNat q.toNat cs (if Nat.ble 24 q.toNat then 24 else q.toNat) 1 = true := by rw [eq]; exact h.2
  have hk : i + 1 < 1 + (if Nat.ble 24 q.toNat then 24 else q.toNat) := by
    split at hi <;> split <;> rename_i h3 h4 <;> simp only [Nat.ble_eq] at h4 <;> omega
  have := legN_is hqn h2 (i + 1) (by omega) hk
  rw [eq] at this
  have ei : ((i + 1 : Nat) : Int) = 1 + (i : Int) := by omega
  rw [ei] at this
  simp only [Bool.and_eq_true, Bool.or_eq_true, Bool.not_eq_true']
  refine ⟨?_, ?_⟩
  · cases hc : closeZ p q ((p * (1 + (i : Int))).fdiv q) (1 + (i : Int)) with
    | true => exact .inr (this.1 hc)
    | false => exact .inl rfl
  · cases hc : closeZ p q ((p * (1 + (i : Int))).fdiv q + 1) (1 + (i : Int)) with
    | true => exact .inr (this.2 hc)
    | false => exact .inl rfl
def backB (row : List Int) (q : Int) (cs : List (Int × Int)) : Bool :=
  !decide (1 < row.length) || match cs[cs.length - 2]? with
    | some c => decide (frow? 60 q c.2 = some (settledZ (row.drop 1).reverse))
    | none => false
def cutB (row : List Int) (p q : Int) : Bool :=
  match conv? 1 0 0 1 row with
  | some cs => (cs.length == row.length) && decide (cs[cs.length - 1]? = some (p, q)) && sidesOk p q 1 0 (-1) p q cs && vahOk p q cs && legB p q cs && backB row q cs
  | none => false
theorem cutB_is {row : List Int} {p q : Int} (hq : 0 < q) (h : cutB row p q = true) : ∃ cs, CutFacts row p q cs := by
  unfold cutB at h
  split at h
  · rename_i cs hc
    simp only [Bool.and_eq_true, beq_iff_eq, decide_eq_true_eq] at h
    obtain ⟨⟨⟨⟨⟨h1, h2⟩, h3⟩, h4⟩, h5⟩, h6⟩ := h
    refine ⟨cs, hc, h1, h2, h3, h4, legB_is hq h5, fun hl => ?_⟩
    unfold backB at h6
    rw [decide_eq_true hl, Bool.not_true, Bool.false_or] at h6
    split at h6
    · rename_i c hc'
      exact ⟨c, hc', of_decide_eq_true h6⟩
    · cases h6
  · cases h
/-- all lists of at most n items of 1 to 4 ahead of the tail -/
def every (P : List Int → Bool) : Nat → List Int → Bool
  | 0, t => P t
  | n + 1, t => P t && every P n (1 :: t) && every P n (2 :: t) && every P n (3 :: t) && every P n (4 :: t)
theorem every_is {P : List Int → Bool} : ∀ {n : Nat} {t items : List Int}, every P n t = true → items.length ≤ n → (∀ x ∈ items, 1 ≤ x ∧ x ≤ 4) → P (items.reverse ++ t) = true := by
  intro n
  induction n with
  | zero =>
    intro t items h hl _
    have : items = [] := List.length_eq_zero_iff.mp (by omega)
    subst this
    exact h
  | succ n ih =>
    intro t items h hl hx
    unfold every at h
    simp only [Bool.and_eq_true] at h
    obtain ⟨⟨⟨⟨h0, h1⟩, h2⟩, h3⟩, h4⟩ := h
    cases items with
    | nil => exact h0
    | cons a r =>
      have ha := hx a (.head _)
      have hr : ∀ x ∈ r, 1 ≤ x ∧ x ≤ 4 := fun x h => hx x (.tail _ h)
      have hl' : r.length ≤ n := by simpa using hl
      rw [List.reverse_cons, List.append_assoc, List.singleton_append]
      have ha' : a = 1 ∨ a = 2 ∨ a = 3 ∨ a = 4 := by omega
      rcases ha' with rfl | rfl | rfl | rfl
      · exact ih h1 hl' hr
      · exact ih h2 hl' hr
      · exact ih h3 hl' hr
      · exact ih h4 hl' hr
end

section
/-- the items of a settled row behind its first: each of 1 to B, the last at least 2 -/
def Tl (B : Int) : List Int → Prop
  | [] => True
  | [a] => 2 ≤ a ∧ a ≤ B
  | a :: b :: r => 1 ≤ a ∧ a ≤ B ∧ Tl B (b :: r)
theorem tl_mono {B C : Int} (h : B ≤ C) : ∀ {r : List Int}, Tl B r → Tl C r
  | [], _ => trivial
  | [_], ⟨h1, h2⟩ => ⟨h1, Int.le_trans h2 h⟩
  | _ :: _ :: _, ⟨h1, h2, h3⟩ => ⟨h1, Int.le_trans h2 h, tl_mono h h3⟩
theorem tl_head {B b : Int} : ∀ {r : List Int}, Tl B (b :: r) → 1 ≤ b ∧ b ≤ B ∧ Tl B r ∧ (r = [] → 2 ≤ b)
  | [], ⟨h1, h2⟩ => ⟨by omega, h2, trivial, fun _ => h1⟩
  | _ :: _, ⟨h1, h2, h3⟩ => ⟨h1, h2, h3, fun e => nomatch e⟩
theorem tl_cons {B b : Int} : ∀ {r : List Int}, 1 ≤ b → b ≤ B → Tl B r → (r = [] → 2 ≤ b) → Tl B (b :: r)
  | [], _, h2, _, h4 => ⟨h4 rfl, h2⟩
  | _ :: _, h1, h2, h3, _ => ⟨h1, h2, h3⟩
theorem valueZ_cons {a : Int} : ∀ {r : List Int}, r ≠ [] → valueZ (a :: r) = (a * (valueZ r).1 + (valueZ r).2, (valueZ r).1)
  | [], h => absurd rfl h
  | _ :: _, _ => rfl
theorem gcdZ_step (a x y : Int) : gcdZ (a * x + y) x = gcdZ x y := by
  show ((Int.gcd (a * x + y) x : Nat) : Int) = (Int.gcd x y : Nat)
  rw [Int.add_comm, Int.gcd_add_mul_right_left, Int.gcd_comm]
theorem gcdZ_comm (x y : Int) : gcdZ x y = gcdZ y x := congrArg Nat.cast (Nat.gcd_comm _ _)
structure ValOk (r : List Int) : Prop where
  y0 : 0 < (valueZ r).2
  lt : (valueZ r).2 < (valueZ r).1
  co : gcdZ (valueZ r).1 (valueZ r).2 = 1
  le : (valueZ r).1 ≤ ((10 ^ r.length : Nat) : Int)
theorem val_tl {B : Int} (hB : B ≤ 9) : ∀ {r : List Int} {b : Int}, Tl B (b :: r) → ValOk (b :: r) := by
  intro r
  induction r with
  | nil =>
    intro b h
    obtain ⟨h1, h2⟩ := h
    have e : valueZ [b] = (b, 1) := rfl
    refine ⟨by rw [e]; exact Int.one_pos, by rw [e]; show (1 : Int) < b; omega, ?_, by rw [e]; show b ≤ ((10 ^ 1 : Nat) : Int); omega⟩
    rw [e]
    show ((Int.gcd b 1 : Nat) : Int) = 1
    rw [Int.gcd_one_right]; rfl
  | cons c r ih =>
    intro b h
    obtain ⟨h1, h2, h3⟩ := h
    obtain ⟨g1, g2, g3, g4⟩ := ih h3
    have e : valueZ (b :: c :: r) = (b * (valueZ (c :: r)).1 + (valueZ (c :: r)).2, (valueZ (c :: r)).1) := rfl
    generalize (valueZ (c :: r)).1 = x at *
    generalize (valueZ (c :: r)).2 = y at *
    have l1 : 1 * x ≤ b * x := Int.mul_le_mul_of_nonneg_right h1 (by omega)
    have l2 : b * x ≤ 9 * x := Int.mul_le_mul_of_nonneg_right (by omega) (by omega)
    refine ⟨by rw [e]; show 0 < x; omega, by rw [e]; show x < b * x + y; omega, by rw [e]; show gcdZ (b * x + y) x = 1; rw [gcdZ_step, g3], ?_⟩
    rw [e]
    show b * x + y ≤ ((10 ^ ((c :: r).length + 1) : Nat) : Int)
    rw [Nat.pow_succ, Int.natCast_mul]
    generalize ((10 ^ (c :: r).length : Nat) : Int) = z at *
    show b * x + y ≤ z * 10
    omega
theorem pow_len {n : Nat} (h : n ≤ 7) : ((10 ^ n : Nat) : Int) ≤ 10000000 := by
  have : (10 ^ n : Nat) ≤ 10 ^ 7 := Nat.pow_le_pow_right (by decide) h
  omega
/-- the value of a whole row: small, the bottom positive, no common part -/
structure ValR (a : Int) (r : List Int) : Prop where
  q0 : 0 < (valueZ (a :: r)).2
  qs : (valueZ (a :: r)).2 ≤ 10000000
  ps : (valueZ (a :: r)).1.natAbs ≤ 100000000
  co : gcdZ (valueZ (a :: r)).1 (valueZ (a :: r)).2 = 1
theorem val_row {B a : Int} {r : List Int} (hB : B ≤ 9) (ha : a.natAbs ≤ 9) (h : Tl B r) (hl : r.length ≤ 7) : ValR a r := by
  cases r with
  | nil =>
    have e : valueZ [a] = (a, 1) := rfl
    refine ⟨by rw [e]; exact Int.one_pos, by rw [e]; show (1 : Int) ≤ 10000000; omega, by rw [e]; show a.natAbs ≤ _; omega, ?_⟩
    rw [e]
    show ((Int.gcd a 1 : Nat) : Int) = 1
    rw [Int.gcd_one_right]; rfl
  | cons b r =>
    obtain ⟨g1, g2, g3, g4⟩ := val_tl hB h
    have g5 := pow_len hl
    have e : valueZ (a :: b :: r) = (a * (valueZ (b :: r)).1 + (valueZ (b :: r)).2, (valueZ (b :: r)).1) := rfl
    generalize (valueZ (b :: r)).1 = x at *
    generalize (valueZ (b :: r)).2 = y at *
    have l1 : (-9) * x ≤ a * x := Int.mul_le_mul_of_nonneg_right (by omega) (by omega)
    have l2 : a * x ≤ 9 * x := Int.mul_le_mul_of_nonneg_right (by omega) (by omega)
    exact ⟨by rw [e]; show 0 < x; omega, by rw [e]; show x ≤ _; omega, by rw [e]; show (a * x + y).natAbs ≤ _; omega, by rw [e]; show gcdZ (a * x + y) x = 1; rw [gcdZ_step, g3]⟩
theorem frow_unf {k : Nat} {p q wh t g : Int} (e1 : p.fdiv q = wh) (e2 : p * 1 - wh * q = t) (e3 : ratG t (q * 1) = g) (h1 : small p = true) (h2 : small q = true) (h3 : small wh = true) (h4 : q ≠ 0) :
    frow? (k + 1) p q = if t.fdiv g = 0 then some [wh] else if small (t.fdiv g) = true then (frow? k (((q * 1).fdiv g).fdiv (ratG ((q * 1).fdiv g) (t.fdiv g))) ((t.fdiv g).fdiv (ratG ((q * 1).fdiv g) (t.fdiv g)))).map (wh :: ·) else none := by
  subst e3 e2 e1
  conv => lhs; unfold frow?
  dsimp only
  rw [if_pos]
  simp only [Bool.and_eq_true, bne_iff_ne, ne_eq]
  exact ⟨⟨⟨h1, h2⟩, h3⟩, h4⟩
theorem fdiv_row {a x y : Int} (h0 : 0 ≤ y) (h1 : y < x) : (a * x + y).fdiv x = a := by
  rw [Int.fdiv_eq_ediv_of_nonneg _ (by omega), Int.add_comm, Int.add_mul_ediv_right _ _ (by omega), Int.ediv_eq_zero_of_lt h0 h1, Int.zero_add]
theorem gcdZ_zero_one : gcdZ 0 1 = 1 := rfl
theorem frow_tl {B : Int} (hB : B ≤ 9) : ∀ {r : List Int} {a : Int} {k : Nat}, a.natAbs ≤ 9 → Tl B r → r.length ≤ 7 → r.length < k → frow? k (valueZ (a :: r)).1 (valueZ (a :: r)).2 = some (a :: r) := by
  intro r
  induction r with
  | nil =>
    intro a k ha _ _ hk
    obtain ⟨k, rfl⟩ : ∃ j, k = j + 1 := ⟨k - 1, by simp at hk; omega⟩
    show frow? (k + 1) a 1 = some [a]
    rw [frow_unf (wh := a) (t := 0) (g := 1) (Int.fdiv_one a) (by omega) (by rfl) (small_iff.mpr (by omega)) rfl (small_iff.mpr (by omega)) (by decide)]
    rfl
  | cons b r ih =>
    intro a k ha h hl hk
    obtain ⟨k, rfl⟩ : ∃ j, k = j + 1 := ⟨k - 1, by simp at hk; omega⟩
    obtain ⟨g1, g2, g3, g4⟩ := val_tl hB h
    obtain ⟨v1, v2, v3, v4⟩ := val_row hB ha h hl
    obtain ⟨t1, t2, t3, _⟩ := tl_head h
    have hI := ih (a := b) (k := k) (by omega) t3 (by simp at hl; omega) (by simpa using hk)
    have e : valueZ (a :: b :: r) = (a * (valueZ (b :: r)).1 + (valueZ (b :: r)).2, (valueZ (b :: r)).1) := rfl
    rw [e] at v1 v2 v3 v4 ⊢
    generalize (valueZ (b :: r)).1 = x at *
    generalize (valueZ (b :: r)).2 = y at *
    dsimp only at v1 v2 v3 v4 ⊢
    have hg : ratG y (x * 1) = 1 := by rw [Int.mul_one]; unfold ratG; rw [if_pos v1, gcdZ_comm, g3]
    rw [frow_unf (wh := a) (t := y) (g := 1) (fdiv_row (by omega) g2) (by rw [Int.mul_one]; omega) hg (small_iff.mpr (by omega)) (small_iff.mpr (by omega)) (small_iff.mpr (by omega)) (by omega)]
    have hg2 : ratG x y = 1 := by unfold ratG; rw [if_pos g1, g3]
    rw [Int.fdiv_one, Int.mul_one, Int.fdiv_one, if_neg (by omega), if_pos (small_iff.mpr (by omega)), hg2, Int.fdiv_one, Int.fdiv_one, hI]
    rfl
theorem settled_id {B a : Int} : ∀ {r : List Int}, Tl B r → settledZ (a :: r) = a :: r
  | [], _ => rfl
  | [b], h => if_neg (by have := h.1; omega)
  | [_, b], h => if_neg (by have := h.2.2.1; omega)
  | [_, _, b], h => if_neg (by have := h.2.2.2.2.1; omega)
  | [_, _, _, b], h => if_neg (by have := h.2.2.2.2.2.2.1; omega)
  | [_, _, _, _, b], h => if_neg (by have := h.2.2.2.2.2.2.2.2.1; omega)
  | [_, _, _, _, _, b], h => if_neg (by have := h.2.2.2.2.2.2.2.2.2.2.1; omega)
  | [_, _, _, _, _, _, b], h => if_neg (by have := h.2.2.2.2.2.2.2.2.2.2.2.2.1; omega)
  | _ :: _ :: _ :: _ :: _ :: _ :: _ :: _ :: _, _ => rfl
theorem val_shift {n a : Int} : ∀ {r : List Int}, valueZ ((n + a) :: r) = ((valueZ (a :: r)).1 + n * (valueZ (a :: r)).2, (valueZ (a :: r)).2)
  | [] => Prod.ext (show n + a = a + n * 1 by omega) rfl
  | b :: r => Prod.ext (show (n + a) * (valueZ (b :: r)).1 + (valueZ (b :: r)).2 = a * (valueZ (b :: r)).1 + (valueZ (b :: r)).2 + n * (valueZ (b :: r)).1 by rw [Int.add_mul]; omega) rfl
/-- a settled row of at most n + 1 items, its value p / q -/
structure Good (B : Int) (n : Nat) (a : Int) (r : List Int) (p q : Int) : Prop where
  ha : a.natAbs ≤ B
  hr : Tl B r
  hl : r.length ≤ n
  hv : valueZ (a :: r) = (p, q)
theorem Good.frow {B : Int} {n : Nat} {a p q : Int} {r : List Int} (g : Good B n a r p q) (hB : B ≤ 9) (hn : n ≤ 7) : frow? 60 p q = some (a :: r) := by
  have hl := g.hl
  have ha := g.ha
  have h := frow_tl (k := 60) hB (a := a) (by omega) g.hr (by omega) (by omega)
  rw [g.hv] at h
  exact h
theorem Good.val {B : Int} {n : Nat} {a p q : Int} {r : List Int} (g : Good B n a r p q) (hB : B ≤ 9) (hn : n ≤ 7) : 0 < q ∧ q ≤ 10000000 ∧ p.natAbs ≤ 100000000 ∧ gcdZ p q = 1 := by
  have hl := g.hl
  have ha := g.ha
  have h := val_row hB (a := a) (by omega) g.hr (by omega)
  obtain ⟨h1, h2, h3, h4⟩ := h
  rw [g.hv] at h1 h2 h3 h4
  exact ⟨h1, h2, h3, h4⟩
theorem Good.sign {B : Int} {n : Nat} {a p q : Int} {r : List Int} (g : Good B n a r p q) (hB : B ≤ 9) : (a < 0 → p < 0) ∧ (0 ≤ a → 0 ≤ p) := by
  obtain ⟨ha, hr, hl, hv⟩ := g
  cases r with
  | nil =>
    have e : (a, (1 : Int)) = (p, q) := hv
    obtain ⟨rfl, rfl⟩ := Prod.mk.inj e
    exact ⟨id, id⟩
  | cons b r =>
    obtain ⟨g1, g2, g3, g4⟩ := val_tl hB hr
    rw [valueZ_cons (List.cons_ne_nil _ _)] at hv
    generalize (valueZ (b :: r)).1 = x at *
    generalize (valueZ (b :: r)).2 = y at *
    obtain ⟨rfl, rfl⟩ := Prod.mk.inj hv
    refine ⟨fun h => ?_, fun h => ?_⟩
    · have : a * x ≤ (-1) * x := Int.mul_le_mul_of_nonneg_right (by omega) (by omega)
      omega
    · have : 0 ≤ a * x := Int.mul_nonneg h (by omega)
      omega
theorem minus_good {B : Int} {n : Nat} {a p q : Int} {r : List Int} (g : Good B n a r p q) : ∃ a' r', minusZ (a :: r) = a' :: r' ∧ Good (B + 1) (n + 1) a' r' (0 - p) q ∧ (a < 0 → 0 ≤ a') := by
  obtain ⟨ha, hr, hl, hv⟩ := g
  cases r with
  | nil =>
    have e : (a, (1 : Int)) = (p, q) := hv
    obtain ⟨rfl, rfl⟩ := Prod.mk.inj e
    exact ⟨0 - a, [], rfl, ⟨by omega, trivial, Nat.zero_le _, rfl⟩, fun h => by omega⟩
  | cons b r =>
    obtain ⟨t1, t2, t3, t4⟩ := tl_head hr
    by_cases hb : b = 1
    · subst hb
      cases r with
      | nil => have := t4 rfl; omega
      | cons c r =>
        obtain ⟨s1, s2, s3, s4⟩ := tl_head t3
        refine ⟨0 - a - 1, (1 + c) :: r, ?_, ⟨by omega, tl_cons (by omega) (by omega) (tl_mono (by omega) s3) (fun e => by omega), by simp at hl ⊢; omega, ?_⟩, fun h => by omega⟩
        · rw [Int.add_comm 1 c]
          have e : minusZ (a :: 1 :: c :: r) = (if (1 : Int) = 1 then (0 - a - 1) :: (c + 1) :: r else settledZ ([0 - a - 1, 1, 1 - 1] ++ (c :: r))) := rfl
          exact e.trans (if_pos rfl)
        · rw [valueZ_cons (List.cons_ne_nil _ _), valueZ_cons (List.cons_ne_nil _ _)] at hv
          rw [valueZ_cons (List.cons_ne_nil _ _), val_shift]
          generalize (valueZ (c :: r)).1 = x at *
          generalize (valueZ (c :: r)).2 = y at *
          dsimp only at hv ⊢
          obtain ⟨rfl, rfl⟩ := Prod.mk.inj hv
          refine Prod.ext ?_ ?_
          · dsimp only
            rw [Int.one_mul, Int.one_mul, Int.sub_mul, Int.sub_mul, Int.zero_mul, Int.one_mul]; omega
          · dsimp only; omega
    · have e : minusZ (a :: b :: r) = settledZ ([0 - a - 1, 1, b - 1] ++ r) := if_neg hb
      by_cases hz : r = [] ∧ b = 2
      · obtain ⟨rfl, rfl⟩ := hz
        refine ⟨0 - a - 1, [2], e, ⟨by omega, ⟨by omega, by omega⟩, by simp at hl ⊢, ?_⟩, fun h => by omega⟩
        have hv' : (a * 2 + 1, (2 : Int)) = (p, q) := hv
        obtain ⟨rfl, rfl⟩ := Prod.mk.inj hv'
        exact Prod.ext (show (0 - a - 1) * 2 + 1 = 0 - (a * 2 + 1) by omega) rfl
      · have hT : Tl (B + 1) (1 :: (b - 1) :: r) := tl_cons (by omega) (by omega) (tl_cons (by omega) (by omega) (tl_mono (by omega) t3) (fun e => by have : b ≠ 2 := fun h => hz ⟨e, h⟩; omega)) (fun e => nomatch e)
        refine ⟨0 - a - 1, 1 :: (b - 1) :: r, e.trans (settled_id hT), ⟨by omega, hT, by simp at hl ⊢; omega, ?_⟩, fun h => by omega⟩
        rw [valueZ_cons (List.cons_ne_nil _ _)] at hv
        rw [valueZ_cons (List.cons_ne_nil _ _), valueZ_cons (List.cons_ne_nil _ _), show b - 1 = -1 + b by omega, val_shift]
        generalize (valueZ (b :: r)).1 = x at *
        generalize (valueZ (b :: r)).2 = y at *
        dsimp only at hv ⊢
        obtain ⟨rfl, rfl⟩ := Prod.mk.inj hv
        have e3 : 1 * (x + -1 * y) + y = x := by omega
        rw [e3]
        refine Prod.ext ?_ rfl
        dsimp only
        rw [Int.sub_mul, Int.sub_mul, Int.zero_mul, Int.one_mul]; omega
theorem over0_good {B : Int} {n : Nat} {a p q : Int} {r : List Int} (g : Good B n a r p q) (h0 : 0 ≤ a) (hp : p ≠ 0) : ∃ a' r', over0Z (a :: r) = a' :: r' ∧ Good B (n + 1) a' r' q p := by
  obtain ⟨ha, hr, hl, hv⟩ := g
  by_cases hz : a = 0
  · subst hz
    cases r with
    | nil =>
      have e : ((0 : Int), (1 : Int)) = (p, q) := hv
      exact absurd (Prod.mk.inj e).1.symm hp
    | cons b r =>
      obtain ⟨t1, t2, t3, t4⟩ := tl_head hr
      refine ⟨b, r, rfl, ⟨by omega, t3, by simp at hl; omega, ?_⟩⟩
      rw [valueZ_cons (List.cons_ne_nil _ _)] at hv
      obtain ⟨rfl, rfl⟩ := Prod.mk.inj hv
      exact Prod.ext rfl (by dsimp only; omega)
  · have e : over0Z (a :: r) = settledZ (0 :: a :: r) := if_neg hz
    by_cases h1 : r = [] ∧ a = 1
    · obtain ⟨rfl, rfl⟩ := h1
      have e' : ((1 : Int), (1 : Int)) = (p, q) := hv
      obtain ⟨rfl, rfl⟩ := Prod.mk.inj e'
      exact ⟨1, [], rfl, ⟨ha, trivial, Nat.zero_le _, rfl⟩⟩
    · have hT : Tl B (a :: r) := tl_cons (by omega) (by omega) hr (fun e => by have : a ≠ 1 := fun h => h1 ⟨e, h⟩; omega)
      refine ⟨0, a :: r, e.trans (settled_id hT), ⟨by omega, hT, by simpa using hl, ?_⟩⟩
      rw [valueZ_cons (List.cons_ne_nil _ _), hv]
      exact Prod.ext (by dsimp only; omega) rfl
theorem minusOk_good {B : Int} {n : Nat} {a p q : Int} {r : List Int} (g : Good B n a r p q) (hn : n ≤ 6) : minusOk (a :: r) = true := by
  obtain ⟨ha, hr, hl, hv⟩ := g
  unfold minusOk
  rw [List.isEmpty_cons, decide_eq_true (by rw [List.length_cons]; omega : (a :: r).length ≤ 7)]
  match r, hr with
  | [], _ => rfl
  | [b], h =>
    have hb : (b == 1) = false := by rw [beq_eq_false_iff_ne]; have := h.1; omega
    show (true && !(true && (some b == some 1))) = true
    rw [show (some b == some (1 : Int)) = (b == 1) from rfl, hb]; rfl
  | _ :: _ :: _, _ => rfl
theorem overOk_good {B : Int} {n : Nat} {a p q : Int} {r : List Int} (g : Good B n a r p q) (hn : n ≤ 4) (hp : p ≠ 0) : overOk (a :: r) = true := by
  have hl := g.hl
  unfold overOk
  dsimp only
  rw [decide_eq_true (by rw [List.length_cons]; omega : (a :: r).length ≤ 6)]
  by_cases h0 : a < 0
  · obtain ⟨a', r', e, g', h'⟩ := minus_good g
    have h' := h' h0
    obtain ⟨a2, r2, e2, g2⟩ := over0_good g' h' (by omega)
    have hl' := g'.hl
    rw [decide_eq_true h0, minusOk_good g (by omega), e, List.isEmpty_cons, decide_eq_true (by rw [List.length_cons]; omega : (a' :: r').length ≤ 6), e2, minusOk_good g2 (by omega)]
    show (true && (false || (true && true && true && decide (0 ≤ a') && true))) = true
    rw [decide_eq_true h']; rfl
  · rw [decide_eq_false h0]; rfl
theorem ratG_flip {p q : Int} (hc : gcdZ p q = 1) : ratG q p = if 0 < p then 1 else -1 := by
  unfold ratG
  rw [gcdZ_comm, hc]; rfl
theorem fdiv_neg_one (x : Int) : x.fdiv (-1) = 0 - x := by
  rw [Int.fdiv_neg (by decide), Int.fdiv_one]; omega
theorem over_good {B : Int} {n : Nat} {a p q : Int} {r : List Int} (g : Good B n a r p q) (hB : B ≤ 7) (hn : n ≤ 4) (hp : p ≠ 0) :
    ∃ a' r', overZ (a :: r) = a' :: r' ∧ Good (B + 2) (n + 3) a' r' (q.fdiv (ratG q p)) (p.fdiv (ratG q p)) := by
  obtain ⟨v1, v2, v3, v4⟩ := g.val (by omega) (by omega)
  have hs := g.sign (by omega)
  by_cases h0 : a < 0
  · obtain ⟨a', r', e, g', h'⟩ := minus_good g
    obtain ⟨a2, r2, e2, g2⟩ := over0_good g' (h' h0) (by omega)
    obtain ⟨a3, r3, e3, g3, _⟩ := minus_good g2
    have hp' := hs.1 h0
    refine ⟨a3, r3, ?_, ?_⟩
    · rw [← e3, ← e2, ← e]
      exact if_pos h0
    · rw [ratG_flip v4, if_neg (by omega), fdiv_neg_one, fdiv_neg_one]
      obtain ⟨ha, hr, hl, hv⟩ := g3
      exact ⟨by omega, tl_mono (by omega) hr, by omega, hv⟩
  · obtain ⟨a2, r2, e2, g2⟩ := over0_good g (by omega) hp
    have hp' := hs.2 (by omega)
    refine ⟨a2, r2, ?_, ?_⟩
    · rw [← e2]
      exact if_neg h0
    · rw [ratG_flip v4, if_pos (by omega), Int.fdiv_one, Int.fdiv_one]
      obtain ⟨ha, hr, hl, hv⟩ := g2
      exact ⟨by omega, tl_mono (by omega) hr, by omega, hv⟩
theorem tl_small {B : Int} (hB : B ≤ 9) : ∀ {r : List Int}, Tl B r → ∀ n ∈ r, n.natAbs < 1073741824
  | [], _, n, h => nomatch h
  | b :: r, h, n, hn => by
    obtain ⟨t1, t2, t3, _⟩ := tl_head h
    rcases List.mem_cons.mp hn with rfl | hn
    · omega
    · exact tl_small hB t3 n hn
theorem row_good {B : Int} {a p q : Int} {r : List Int} (g : Good B 4 a r p q) (hB : B ≤ 6) (hc : ∃ cs, CutFacts (a :: r) p q cs) : RowFacts (a :: r) := by
  obtain ⟨v1, v2, v3, v4⟩ := g.val (by omega) (by omega)
  have hv := g.hv
  have ha := g.ha
  have hl := g.hl
  obtain ⟨a', r', e, g', _⟩ := minus_good g
  refine ⟨List.cons_ne_nil _ _, by rw [List.length_cons]; omega, fun n hn => ?_, by rw [hv]; exact v1, by rw [hv]; exact Nat.lt_of_le_of_lt v3 (by decide), by rw [hv]; dsimp only; omega, by rw [hv]; exact g.frow (by omega) (by omega), by rw [hv, e]; exact g'.frow (by omega) (by omega),
    minusOk_good g (by omega), fun hp => ?_, fun hp => ?_, by rw [hv]; exact hc⟩
  · rcases List.mem_cons.mp hn with rfl | hn
    · omega
    · exact tl_small (by omega) g.hr n hn
  · rw [hv] at hp ⊢
    obtain ⟨a2, r2, e2, g2⟩ := over_good g (by omega) (by omega) hp
    rw [e2]
    exact g2.frow (by omega) (by omega)
  · rw [hv] at hp
    exact overOk_good g (by omega) hp

/-- a convergent, the row's first item larger by n -/
def shC (n : Int) (c : Int × Int) : Int × Int := (c.1 + n * c.2, c.2)
theorem conv_shift {n : Int} : ∀ {r : List Int} {a b c d : Int} {cs : List (Int × Int)}, conv? a b c d r = some cs → conv? (a + n * b) b (c + n * d) d r = some (cs.map (shC n))
  | [], _, _, _, _, cs, h => by
    have e : ([] : List (Int × Int)) = cs := Option.some.inj h
    subst e; rfl
  | m :: r, a, b, c, d, cs, h => by
    unfold conv? at h ⊢
    split at h
    · rename_i hc
      rw [if_pos hc]
      obtain ⟨ps, h1, rfl⟩ := Option.map_eq_some_iff.mp h
      have ih := conv_shift (n := n) h1
      have e : m * (a + n * b) + (c + n * d) = m * a + c + n * (m * b + d) := by
        rw [Int.mul_add, Int.mul_add, Int.mul_left_comm m n b]; omega
      rw [e, ih]; rfl
    · cases h
theorem dist_shift {p q a b n : Int} : (p + n * q) * b - (a + n * b) * q = p * b - a * q := by
  rw [Int.add_mul, Int.add_mul, Int.mul_assoc, Int.mul_assoc, Int.mul_comm q b]; omega
theorem off_shift {p q a b n : Int} : (a + n * b) * q - (p + n * q) * b = a * q - p * b := by
  rw [Int.add_mul, Int.add_mul, Int.mul_assoc, Int.mul_assoc, Int.mul_comm q b]; omega
theorem distX_shift {p q a b n : Int} : distX (p + n * q) q (a + n * b) b = distX p q a b := by unfold distX; rw [dist_shift]
theorem distY_shift {p q a b n : Int} : distY (p + n * q) q (a + n * b) b = distY p q a b := by unfold distY; rw [dist_shift]
theorem near_shift {p q a b c d n : Int} : nearZ (p + n * q) q (a + n * b) b (c + n * d) d = nearZ p q a b c d := by
  unfold nearZ nearSide; rw [distX_shift, distY_shift, distX_shift, distY_shift]
theorem close_shift {p q a b n : Int} : closeZ (p + n * q) q (a + n * b) b = closeZ p q a b := by
  unfold closeZ; rw [off_shift]
theorem sides_shift {p q n : Int} : ∀ {cs : List (Int × Int)} {a b side one other : Int}, sidesOk p q a b side one other cs = true → small (a + n * b) = true → (∀ c ∈ cs, small (shC n c).1 = true) → sidesOk (p + n * q) q (a + n * b) b side one other (cs.map (shC n)) = true
  | [], _, _, _, _, _, h, _, _ => h
  | (c, d) :: r, a, b, side, one, other, h, ha, hc => by
    have h1 := hc (c, d) (.head _)
    rw [List.map_cons]
    show sidesOk (p + n * q) q (a + n * b) b side one other ((c + n * d, d) :: r.map (shC n)) = true
    unfold sidesOk at h ⊢
    simp only [Bool.and_eq_true] at h
    obtain ⟨⟨⟨⟨⟨⟨⟨⟨⟨⟨⟨g1, g2⟩, g3⟩, g4⟩, g5⟩, g6⟩, g7⟩, g8⟩, g9⟩, g10⟩, g11⟩, g12⟩ := h
    rw [ha, g2, show small (c + n * d) = true from h1, g4, g5, g6, g7, g8, off_shift (p := a) (q := b), g9, off_shift, g10, distX_shift, distY_shift, distX_shift, distY_shift, near_shift, near_shift, g11, sides_shift g12 h1 fun e he => hc e (.tail _ he)]
    rfl
theorem sides_one {p q a b side one one' other : Int} (e : one.fmod other = one'.fmod other) : ∀ {cs : List (Int × Int)}, sidesOk p q a b side one other cs = sidesOk p q a b side one' other cs
  | [] => rfl
  | (c, d) :: r => by unfold sidesOk; rw [e]
theorem vah_shift {p q n : Int} : ∀ {cs : List (Int × Int)}, vahOk p q cs = true → vahOk (p + n * q) q (cs.map (shC n)) = true
  | [], _ => rfl
  | [_], _ => rfl
  | c :: d :: r, h => by
    show vahOk (p + n * q) q (shC n c :: shC n d :: r.map (shC n)) = true
    unfold vahOk at h ⊢
    simp only [Bool.and_eq_true] at h
    obtain ⟨⟨⟨h1, h2⟩, h3⟩, h4⟩ := h
    show (small c.2 && small d.2 && (closeZ (p + n * q) q (d.1 + n * d.2) d.2 || closeZ (p + n * q) q (c.1 + n * c.2) c.2) && vahOk (p + n * q) q ((d :: r).map (shC n))) = true
    rw [h1, h2, close_shift, close_shift, h3, vah_shift h4]; rfl
theorem any_shift {n b t : Int} : ∀ {cs : List (Int × Int)}, ((cs.map (shC n)).any fun c => c.1 * b == (t + n * b) * c.2) = cs.any fun c => c.1 * b == t * c.2
  | [] => rfl
  | c :: r => by
    rw [List.map_cons, List.any_cons, List.any_cons, any_shift]
    congr 1
    show ((c.1 + n * c.2) * b == (t + n * b) * c.2) = (c.1 * b == t * c.2)
    have e1 : (c.1 + n * c.2) * b = c.1 * b + n * (c.2 * b) := by rw [Int.add_mul, Int.mul_assoc]
    have e2 : (t + n * b) * c.2 = t * c.2 + n * (c.2 * b) := by rw [Int.add_mul, Int.mul_assoc, Int.mul_comm b]
    rw [e1, e2, Bool.eq_iff_iff, beq_iff_eq, beq_iff_eq]
    omega
theorem leg_shift {p q n : Int} (hq : 0 < q) {cs : List (Int × Int)} (h : legOk p q cs = true) (hc : ∀ c ∈ cs, small (shC n c).1 = true) : legOk (p + n * q) q (cs.map (shC n)) = true := by
  unfold legOk at h ⊢
  simp only [Bool.and_eq_true, List.all_eq_true] at h
  rw [Bool.and_eq_true, List.all_eq_true, List.all_eq_true]
  refine ⟨fun e he => ?_, fun i hi => ?_⟩
  · obtain ⟨c, h1, rfl⟩ := List.mem_map.mp he
    rw [hc c h1]
    exact (h.1 c h1).2
  · have hi' := h.2 i hi
    generalize 1 + (i : Int) = b at *
    have e : ((p + n * q) * b).fdiv q = (p * b).fdiv q + n * b := by
      rw [Int.fdiv_eq_ediv_of_nonneg _ (by omega), Int.fdiv_eq_ediv_of_nonneg _ (by omega), Int.add_mul, Int.mul_assoc, Int.mul_comm q b, ← Int.mul_assoc, Int.add_mul_ediv_right _ _ (by omega)]
    dsimp only
    rw [e, show (p * b).fdiv q + n * b + 1 = ((p * b).fdiv q + 1) + n * b by omega, close_shift, close_shift, any_shift, any_shift, Bool.and_eq_true]
    exact hi'
theorem cut_shift {n a p q : Int} {r : List Int} {cs : List (Int × Int)} (h : CutFacts (a :: r) p q cs) (hq : 0 < q) (ha : small (n + a) = true) (hc : ∀ c ∈ cs, small (shC n c).1 = true) : CutFacts ((n + a) :: r) (p + n * q) q (cs.map (shC n)) := by
  refine ⟨?_, ?_, ?_, ?_, vah_shift h.vah, leg_shift hq h.leg hc, fun hl => ?_⟩
  · have hv := h.conv
    unfold conv? at hv ⊢
    split at hv
    · rename_i hs
      rw [Bool.and_eq_true] at hs
      rw [if_pos (by rw [Bool.and_eq_true]; exact ⟨ha, by rw [Int.mul_zero]; rfl⟩)]
      obtain ⟨ps, h1, rfl⟩ := Option.map_eq_some_iff.mp hv
      have ih := conv_shift (n := n) h1
      have e1 : (n + a) * 1 + 0 = a * 1 + 0 + n * (a * 0 + 1) := by omega
      have e2 : (n + a) * 0 + 1 = a * 0 + 1 := by omega
      have e3 : (1 : Int) = 1 + n * 0 := by omega
      rw [e1, e2]
      conv => lhs; arg 2; arg 3; rw [e3]
      rw [ih]; rfl
    · cases hv
  · rw [List.length_map, h.len]; rfl
  · rw [List.length_map, List.getElem?_map, h.last]; rfl
  · have := sides_shift (n := n) h.sides (by rw [Int.mul_zero]; rfl) hc
    rw [Int.mul_zero] at this
    have e : (p + n * q).fmod q = p.fmod q := by rw [Int.fmod_eq_emod_of_nonneg _ (by omega), Int.fmod_eq_emod_of_nonneg _ (by omega), Int.add_mul_emod_self_right]
    rw [sides_one e]
    exact this
  · obtain ⟨c, h1, h2⟩ := h.back hl
    refine ⟨shC n c, ?_, h2⟩
    rw [List.length_map, List.getElem?_map, h1]; rfl
def tiny (x : Int) : Bool := Nat.ble x.natAbs 100000
/-- the facts of a row's convergents, all small -/
def cutT (row : List Int) : Bool :=
  match conv? 1 0 0 1 row with
  | some cs => cs.all (fun c => tiny c.1 && tiny c.2) && cutB row (valueZ row).1 (valueZ row).2
  | none => false
theorem cutT_is {row : List Int} (hq : 0 < (valueZ row).2) (h : cutT row = true) : ∃ cs, CutFacts row (valueZ row).1 (valueZ row).2 cs ∧ ∀ c ∈ cs, c.1.natAbs ≤ 100000 ∧ c.2.natAbs ≤ 100000 := by
  unfold cutT at h
  split at h
  · rename_i cs hc
    rw [Bool.and_eq_true] at h
    obtain ⟨cs', hf⟩ := cutB_is hq h.2
    have e : cs = cs' := Option.some.inj (hc.symm.trans hf.conv)
    subst e
    refine ⟨cs, hf, fun c hm => ?_⟩
    have := List.all_eq_true.mp h.1 c hm
    rw [Bool.and_eq_true] at this
    exact ⟨Nat.le_of_ble_eq_true this.1, Nat.le_of_ble_eq_true this.2⟩
  · cases h
/-- a settled row with its first item set free -/
theorem settled_shape : ∀ {items : List Int}, items.length ≤ 4 → (∀ x ∈ items, 1 ≤ x ∧ x ≤ 4) → ∃ a r, 0 ≤ a ∧ a ≤ 1 ∧ Tl 5 r ∧ r.length ≤ 4 ∧ ∀ n, settledZ (n :: items) = (n + a) :: r
  | [], _, _ => ⟨0, [], by omega, by omega, trivial, Nat.zero_le _, fun n => by rw [Int.add_zero]; rfl⟩
  | [b], _, h => by
    have hb := h b (by simp)
    by_cases e : b = 1
    · subst e; exact ⟨1, [], by omega, by omega, trivial, Nat.zero_le _, fun n => rfl⟩
    · exact ⟨0, [b], by omega, by omega, ⟨by omega, by omega⟩, by simp, fun n => by rw [Int.add_zero]; exact if_neg e⟩
  | [b, c], _, h => by
    have hb := h b (by simp)
    have hc := h c (by simp)
    by_cases e : c = 1
    · subst e; exact ⟨0, [b + 1], by omega, by omega, ⟨by omega, by omega⟩, by simp, fun n => by rw [Int.add_zero]; rfl⟩
    · exact ⟨0, [b, c], by omega, by omega, ⟨by omega, by omega, by omega, by omega⟩, by simp, fun n => by rw [Int.add_zero]; exact if_neg e⟩
  | [b, c, d], _, h => by
    have hb := h b (by simp)
    have hc := h c (by simp)
    have hd := h d (by simp)
    by_cases e : d = 1
    · subst e; exact ⟨0, [b, c + 1], by omega, by omega, ⟨by omega, by omega, by omega, by omega⟩, by simp, fun n => by rw [Int.add_zero]; rfl⟩
    · exact ⟨0, [b, c, d], by omega, by omega, ⟨by omega, by omega, by omega, by omega, by omega, by omega⟩, by simp, fun n => by rw [Int.add_zero]; exact if_neg e⟩
  | [b, c, d, f], _, h => by
    have hb := h b (by simp)
    have hc := h c (by simp)
    have hd := h d (by simp)
    have hf := h f (by simp)
    by_cases e : f = 1
    · subst e; exact ⟨0, [b, c, d + 1], by omega, by omega, ⟨by omega, by omega, by omega, by omega, by omega, by omega⟩, by simp, fun n => by rw [Int.add_zero]; rfl⟩
    · exact ⟨0, [b, c, d, f], by omega, by omega, ⟨by omega, by omega, by omega, by omega, by omega, by omega, by omega, by omega⟩, by simp, fun n => by rw [Int.add_zero]; exact if_neg e⟩
  | _ :: _ :: _ :: _ :: _ :: _, h, _ => absurd h (by simp)
def base0 (items : List Int) : Bool := cutT (settledZ (0 :: items))
theorem base_0 : base0 [] = true := by decide +kernel
theorem base_1 : every base0 3 [1] = true := by decide +kernel
theorem base_2 : every base0 3 [2] = true := by decide +kernel
theorem base_3 : every base0 3 [3] = true := by decide +kernel
theorem base_4 : every base0 3 [4] = true := by decide +kernel
theorem base_all {items : List Int} (hl : items.length ≤ 4) (hx : ∀ x ∈ items, 1 ≤ x ∧ x ≤ 4) : base0 items = true := by
  have h : every base0 4 [] = true := by
    unfold every
    rw [base_0, base_1, base_2, base_3, base_4]; rfl
  have := every_is (items := items.reverse) h (by rw [List.length_reverse]; exact hl) (fun x h => hx x (List.mem_reverse.mp h))
  rwa [List.reverse_reverse, List.append_nil] at this
theorem row_facts {y : Int} {items : List Int} (h0 : 0 ≤ y) (h1 : y < 11) (hl : items.length ≤ 4) (hx : ∀ x ∈ items, 1 ≤ x ∧ x ≤ 4) : RowFacts (settledZ ([y - 5] ++ items)) := by
  show RowFacts (settledZ ((y - 5) :: items))
  obtain ⟨a, r, a0, a1, hr, hrl, he⟩ := settled_shape hl hx
  have hb := base_all hl hx
  unfold base0 at hb
  rw [he, Int.zero_add] at hb
  rw [he]
  have g : Good 6 4 a r (valueZ (a :: r)).1 (valueZ (a :: r)).2 := ⟨by omega, tl_mono (by decide) hr, hrl, rfl⟩
  have g2 : Good 6 4 (y - 5 + a) r ((valueZ (a :: r)).1 + (y - 5) * (valueZ (a :: r)).2) (valueZ (a :: r)).2 := ⟨by omega, tl_mono (by decide) hr, hrl, val_shift⟩
  obtain ⟨v1, v2, v3, v4⟩ := g.val (by decide) (by decide)
  obtain ⟨cs, hf, hs⟩ := cutT_is v1 hb
  refine row_good g2 (by decide) ⟨_, cut_shift hf v1 (small_iff.mpr (by omega)) fun c hc => small_iff.mpr ?_⟩
  obtain ⟨s1, s2⟩ := hs c hc
  show (c.1 + (y - 5) * c.2).natAbs < _
  have m1 : ((y - 5) * c.2).natAbs = (y - 5).natAbs * c.2.natAbs := Int.natAbs_mul _ _
  have m2 : (y - 5).natAbs * c.2.natAbs ≤ 5 * 100000 := Nat.mul_le_mul (by omega) s2
  omega
end

section
/-- between the turns of the drawing: so many items, each of 1 to 4, and the spot -/
structure DrJ (i : Nat) (ys : List Value) (c : Int) : Prop where
  items : ∃ items, IntsAre ys items ∧ items.length = i ∧ ∀ x ∈ items, 1 ≤ x ∧ x ≤ 4
  c : c = 2 + (i : Int)
theorem DrJ.start : DrJ 0 [] 2 := ⟨⟨[], .nil, rfl, fun _ h => nomatch h⟩, rfl⟩
theorem DrJ.snoc {i : Nat} {ys : List Value} {c x : Int} {t : Tok} (h : DrJ i ys c) (h1 : 1 ≤ x) (h4 : x ≤ 4) : DrJ (i + 1) (ys ++ [.int x t]) (c + 1) := by
  obtain ⟨⟨items, a, b, d⟩, e⟩ := h
  refine ⟨⟨items ++ [x], intsAre_snoc a, by rw [List.length_append, b]; rfl, fun z hz => ?_⟩, by omega⟩
  rcases List.mem_append.mp hz with hz | hz
  · exact d z hz
  · rw [List.mem_singleton.mp hz]; exact ⟨h1, h4⟩
theorem DrJ.snocD {i : Nat} {ys : List Value} {c y : Int} {t : Tok} (h : DrJ i ys c) (h1 : 0 ≤ y) (h4 : y < 4) : DrJ (i + 1) (ys ++ [.int (1 + y) t]) (c + 1) := h.snoc (by omega) (by omega)
theorem DrJ.bnd {i : Nat} {ys : List Value} {c y : Int} (h : DrJ i ys c) (hi : i < (y - 0).toNat) (hy : y < 5) : 0 ≤ c ∧ c ≤ 1000 := by
  have := h.c
  omega
theorem len_four {n : Nat} {y : Int} (h : n = (y - 0).toNat) (hy : y < 5) : n ≤ 4 ∧ 0 + 1 + n ≤ 8 ∧ 0 + 1 + n ≤ 16777216 := by omega
theorem off3_head {I C D pl : Addr} {o o' : Obj} {l : Led} (h : LCg.Off3 I C D ((pl, o) :: l)) : LCg.Off3 I C D ((pl, o') :: l) := h
theorem newsPick {h₀ h : Heap} {L pl xl : Addr} {c : Int} {t : Tok} {np : Nat} {news rest : Led} (N : News h₀ L h news) (hp : (pl, listOf #[.ref xl, .int c t] np) ∈ news) (R : Rst pl news rest) : News h₀ L h ((pl, listOf #[.ref xl, .int c t] np) :: rest) := fun p hp' => by
  rcases List.mem_cons.mp hp' with rfl | hp'
  · exact N _ hp
  · exact N _ (R.mem p hp').1

theorem comp_draw {prog : Program} {w : World} {A : Around} {h₀ : Heap} {L : Addr} {m : Str → Option Value} {env : Env} {elt : PySem.Expr} {x : Str} {scope : Scope} {cl : List (Str × Addr)} {s : Shared} {S : Led → Prop} {P : Nat → Value → Prop} {Fin : List Value → Led → Prop} {n : Nat} {pl xl : Addr} {np : Nat} {Lg : Led} {t₀ : Tok} {c₀ : Int} (hc₀ : c₀ = 2)
    (turn : ∀ (k i : Nat) (ys : List Value) (c : Int) (t : Tok), i < n → DrJ i ys c → (∀ ys' c' t', DrJ (i + 1) ys' c' → LCg.CompRest prog w A h₀ L m env elt x scope cl s S P Fin k (i + 1) ys' ((pl, listOf #[.ref xl, .int c' t'] np) :: Lg)) →
      ∀ (v : Value) (I : Addr) (oI : Obj) (C : Addr) (oC : Obj) (D : Addr) (m₂ : Str → Option Value) (h : Heap) (tk : Nat) (E' : Value → Shared → Prop), LCg.NsObj oC m₂ → m₂ x = some v → Fr h₀ L h m → News h₀ L h ((I, oI) :: (C, oC) :: (D, LCg.lst ys) :: (pl, listOf #[.ref xl, .int c t] np) :: Lg) → LCg.Off3 I C D ((pl, listOf #[.ref xl, .int c t] np) :: Lg) → ((@Ne Nat I C) ∧ (@Ne Nat I D) ∧ (@Ne Nat C D)) →
      wpAny (model prog w) A (eval elt (compEnvC scope cl C env)) (LCg.CompEnd h₀ L m { s with heap := h, toks := tk } I oI C oC D (LCg.lst ys) S (fun y news' => LCg.CompRest prog w A h₀ L m env elt x scope cl s S P Fin k (i + 1) (ys ++ [y]) news')) E' { s with heap := h, toks := tk })
    (fin : ∀ ys c t, DrJ n ys c → Fin ys ((pl, listOf #[.ref xl, .int c t] np) :: Lg)) : LCg.CompRest prog w A h₀ L m env elt x scope cl s S P Fin n 0 [] ((pl, listOf #[.ref xl, .int c₀ t₀] np) :: Lg) := by
  subst hc₀
  have key : ∀ (k i : Nat) (ys : List Value) (c : Int) (t : Tok), i + k = n → DrJ i ys c → LCg.CompRest prog w A h₀ L m env elt x scope cl s S P Fin k i ys ((pl, listOf #[.ref xl, .int c t] np) :: Lg) := by
    intro k
    induction k with
    | zero =>
      intro i ys c t e hJ
      have e' : i = n := e
      exact LCg.CompRest.zero (fin ys c t (e' ▸ hJ))
    | succ k ih =>
      intro i ys c t e hJ
      refine LCg.CompRest.succ ?_
      intro v I oI C oC D m₂ h tk E' _ hC hx F N off ne
      exact turn k i ys c t (by omega) hJ (fun ys' c' t' hJ' => ih (i + 1) ys' c' t' (by omega) hJ') v I oI C oC D m₂ h tk E' hC hx F N off ne
  exact key n 0 [] 2 t₀ (Nat.zero_add n) DrJ.start

theorem ne_same {prog : Program} {w : World} {A : Around} {E : Value → Shared → Prop} {s : Shared} {h₀ : Heap} {L : Addr} {news : Led} {a b : Addr} {xs ys : List Value} {ns : List Int} {n k : Nat} {Q : Value → Shared → Prop} (N : News h₀ L s.heap news) (ma : (a, listOf xs.toArray n) ∈ news) (mb : (b, listOf ys.toArray k) ∈ news)
    (hi : IntsAre xs ns) (hj : IntsAre ys ns) (hu : A.units + 64 < cLine) (h : Q (.bool false) s) : wpAny (model prog w) A (compareOp .NotEq (.ref a) (.ref b)) Q E s :=
  have ha : s.heap.IsList a xs.toArray := ⟨_, (N _ ma).1, rfl, n, rfl⟩
  have hb : s.heap.IsList b ys.toArray := ⟨_, (N _ mb).1, rfl, k, rfl⟩
  ke_ne_ints ha hb hi hj hu (by simpa using h)
theorem ne_pair {prog : Program} {w : World} {A : Around} {E : Value → Shared → Prop} {s : Shared} {h₀ : Heap} {L : Addr} {news : Led} {a b : Addr} {x y : Int} {t u t' u' : Tok} {n k : Nat} {Q : Value → Shared → Prop} (N : News h₀ L s.heap news) (ma : (a, tupO [.int x t, .int y u] n) ∈ news) (mb : (b, tupO [.int x t', .int y u'] k) ∈ news)
    (hu : A.units + 64 < cLine) (h : Q (.bool false) s) : wpAny (model prog w) A (compareOp .NotEq (.ref a) (.ref b)) Q E s :=
  ne_dataH (da := .tuple [.int x, .int y]) (db := .tuple [.int x, .int y]) (reads_tuple_at (News.get N ma) rfl rfl (.cons (.int _ _) (.cons (.int _ _) .nil))) (reads_tuple_at (News.get N mb) rfl rfl (.cons (.int _ _) (.cons (.int _ _) .nil))) rfl rfl hu (by simpa [PyData.eqv, PyData.eqvAll] using h)
theorem atLast {prog : Program} {w : World} {A : Around} {E : Value → Shared → Prop} {s : Shared} {h₀ : Heap} {L : Addr} {news : Led} {value slice : PySem.Expr} {l : Addr} {vs : List Value} {nn : Nat} {k : Int} {u : Tok} {v : Value} {Q : Value → Shared → Prop}
    (N : News h₀ L s.heap news) (hm : (l, listOf vs.toArray nn) ∈ news) (j : Nat) (hk : k = -(j : Int)) (hj : 0 < j) (h1 : j ≤ vs.length) (hl : vs.length ≤ 1000) (hx : vs[vs.length - j]? = some v) (h : Q v s)
    (hs : subscripted slice false (.ref l) (.int k u) = operate [.ref l, .int k u] (getItem (.ref l) (.int k u)) := by with_unfolding_all rfl) :
    wpAny (model prog w) A (subscriptTail value slice (.ref l) (.int k u)) Q E s :=
  have hl' : s.heap.IsList l vs.toArray := ⟨_, (N _ hm).1, rfl, nn, rfl⟩
  tail_any hl'.typeIs slot_list_getitem.lookup (wpAny_getItem_list_neg hl' (by omega) (by rw [List.size_toArray]; omega) (by omega) (by rw [List.size_toArray, show (k + (vs.length : Int)).toNat = vs.length - j by omega]; simpa using hx) h) hs
theorem tup0 {prog : Program} {w : World} {A : Around} {E : Value → Shared → Prop} {s : Shared} {h₀ : Heap} {L : Addr} {news : Led} {value slice : PySem.Expr} {l : Addr} {x y : Value} {nn : Nat} {u : Tok} {Q : Value → Shared → Prop}
    (N : News h₀ L s.heap news) (hm : (l, tupO [x, y] nn) ∈ news) (h : Q x s)
    (hs : subscripted slice false (.ref l) (.int 0 u) = operate [.ref l, .int 0 u] (getItem (.ref l) (.int 0 u)) := by with_unfolding_all rfl) :
    wpAny (model prog w) A (subscriptTail value slice (.ref l) (.int 0 u)) Q E s :=
  item_tupleT (l := [x, y]) (j := 0) ⟨_, (N _ hm).1, rfl, nn, rfl⟩ (by omega) (by omega) rfl rfl h hs
theorem tup1 {prog : Program} {w : World} {A : Around} {E : Value → Shared → Prop} {s : Shared} {h₀ : Heap} {L : Addr} {news : Led} {value slice : PySem.Expr} {l : Addr} {x y : Value} {nn : Nat} {u : Tok} {Q : Value → Shared → Prop}
    (N : News h₀ L s.heap news) (hm : (l, tupO [x, y] nn) ∈ news) (h : Q y s)
    (hs : subscripted slice false (.ref l) (.int 1 u) = operate [.ref l, .int 1 u] (getItem (.ref l) (.int 1 u)) := by with_unfolding_all rfl) :
    wpAny (model prog w) A (subscriptTail value slice (.ref l) (.int 1 u)) Q E s :=
  item_tupleT (l := [x, y]) (j := 1) ⟨_, (N _ hm).1, rfl, nn, rfl⟩ (by omega) (by omega) rfl rfl h hs
theorem row_of {w : List Value} {y : Int} {items : List Int} (h : IntsAre w (settledZ ([y - 5] ++ items))) (h0 : 0 ≤ y) (h1 : y < 11) (hl : items.length ≤ 4) (hx : ∀ x ∈ items, 1 ≤ x ∧ x ≤ 4) : ∃ row, IntsAre w row ∧ RowFacts row :=
  ⟨_, h, row_facts h0 h1 hl hx⟩
structure Keep (p : Prop) : Prop where
  h : p
theorem keepBack {row : List Int} {p q : Int} {cs : List (Int × Int)} (CF : CutFacts row p q cs) (h : 1 < row.length) : ∃ c : Int × Int, cs[cs.length - 2]? = some c ∧ Keep (frow? 60 q c.2 = some (settledZ (row.drop 1).reverse)) := by
  obtain ⟨c, h1, h2⟩ := CF.back h
  exact ⟨c, h1, ⟨h2⟩⟩
theorem useCuts {w : World} {mean : ExcName → Option Value} {mg mb : Str → Option Value} {f : Addr} {k u : Nat} {news : Led} {vs : List Value}
    {dp un : Nat} {gd : Option (List Code)} {cn : Str} {cs : Scope} {a : Addr} {ccd : Value} {cl : List (Str × Addr)} {outer : List Env} {A₀ : Around} {base h₀ : Heap} {L : Addr} {m : Str → Option Value} {s : Shared} {Q E : Value → Shared → Prop} {ps : List (Int × Int)} {row : List Int} {p q : Int} (CF : CutFacts row p q ps) (hne : row ≠ [])
    (B : Below A₀ base outer h₀) (F : Fr h₀ L s.heap m) (X : (hd.heap_39 w.params).In h₀) (N : News h₀ L s.heap news) (T : Top hd.view_39 (looseW hd.view_39 []) mean mg mb h₀) (hk : cs.kind = .function) (hd' : dp + k < recursionLimit) (hu : un + u < cLine) (C : Claim w mean mg mb f k u news vs (PPairs ps))
    (ret : ∀ (b : Addr) (n : Nat) (ws : List Value) (tl : Led) (h' : Heap) (tk' : Nat) (x : Addr) (nx : Nat) (tx ux : Tok), Pairs tl ws ps → ws.length = row.length → ws[ws.length - 1]? = some (.ref x) → Fr h₀ L h' m → News h₀ L h' ((x, tupO [.int p tx, .int q ux] nx) :: (b, listOf ws.toArray n) :: (news ++ tl)) → Q (.ref b) { s with heap := h', toks := tk' }) :
    wpAny (model PySem.Challenge.rw_sa0075_01.row.prog w) (ktrTop dp un gd cn cs L a ccd cl outer) (call (.ref f) vs) Q E s := by
  refine usePairs B F X N T hk hd' hu C fun b n ws tl h' tk' hp F' N' _ _ => ?_
  obtain ⟨x, nx, tx, ux, e, mx⟩ := hp.get CF.last
  refine ret b n ws tl h' tk' x nx tx ux hp (by rw [hp.length, CF.len]) (by rw [hp.length]; exact e) F' fun z hz => ?_
  rcases List.mem_cons.mp hz with rfl | hz
  · exact N' _ (.tail _ (List.mem_append.mpr (.inl mx)))
  · rcases List.mem_cons.mp hz with rfl | hz
    · exact N' _ (.head _)
    · rcases List.mem_append.mp hz with hz | hz
      · exact N' _ (.tail _ (List.mem_append.mpr (.inr hz)))
      · exact N' _ (.tail _ (List.mem_append.mpr (.inl hz)))
theorem dropRev_ne {row : List Int} (h : 1 < row.length) : (row.drop 1).reverse ≠ [] := fun e => by
  have := congrArg List.length e
  simp at this
  omega
/-- a statement whose ways meet again -/
def JoinQ (h₀ : Heap) (L : Addr) (m : Str → Option Value) (news : Led) (s : Shared) : Flow → Shared → Prop := fun f s' => ∃ (h' : Heap) (tk' : Nat), f = .next ∧ s' = { s with heap := h', toks := tk' } ∧ Fr h₀ L h' m ∧ News h₀ L h' news
theorem join_stmt {prog : Program} {w : World} {A : Around} {E : Value → Shared → Prop} {Q : Flow → Shared → Prop} {s : Shared} {h₀ : Heap} {L : Addr} {m : Str → Option Value} {news : Led} {t : Sem Flow} (_ : Fr h₀ L s.heap m) (_ : News h₀ L s.heap news)
    (h1 : wpAny (model prog w) A t (JoinQ h₀ L m news s) E s) (h2 : ∀ (h' : Heap) (tk' : Nat), Fr h₀ L h' m → News h₀ L h' news → Q .next { s with heap := h', toks := tk' }) : wpAny (model prog w) A t Q E s :=
  wpAny_mono h1 (fun f s' ⟨h', tk', e1, e2, F', N'⟩ => by subst e1 e2; exact h2 h' tk' F' N') fun _ _ x => x
theorem join_end {h₀ h' : Heap} {L : Addr} {m : Str → Option Value} {news news' : Led} {s : Shared} {tk' : Nat} (F : Fr h₀ L h' m) (N : News h₀ L h' news') (hs : ∀ p ∈ news, p ∈ news') : JoinQ h₀ L m news s .next { s with heap := h', toks := tk' } :=
  ⟨h', tk', rfl, rfl, F, cb_drop N hs⟩
theorem newsHead {h₀ h : Heap} {L : Addr} {l : Led} {e : Addr × Obj} (N : News h₀ L h (e :: l)) : News h₀ L h [e] := cb_drop N fun p hp => by
  rw [List.mem_singleton.mp hp]; exact .head _
theorem newsTwo {h₀ h : Heap} {L : Addr} {l : Led} {a b : Addr} {p q : Int} {t u : Tok} {n k : Nat} {w : List Value} {row : List Int} (_ : IntsAre w row) (N : News h₀ L h l) (ha : (a, tupO [.int p t, .int q u] n) ∈ l) (hb : (b, listOf w.toArray k) ∈ l) :
    News h₀ L h [(a, tupO [.int p t, .int q u] n), (b, listOf w.toArray k)] := cb_drop N fun e he => by
  rcases List.mem_cons.mp he with rfl | he
  · exact ha
  · rw [List.mem_singleton.mp he]; exact hb
local macro_rules | `(tactic| walk_at "neq") => `(tactic| first | with_reducible assumption | exact Ne.symm (by with_reducible assumption) | exact Nat.ne_of_lt (And.left (by with_reducible assumption)) | exact Nat.ne_of_lt (by with_reducible assumption) | exact Nat.ne_of_lt (And.left (And.right (by with_reducible assumption))) | exact Nat.ne_of_lt (And.right (by with_reducible assumption)) | exact Nat.ne_of_lt (And.left (And.right (And.right (by with_reducible assumption)))) | exact Nat.ne_of_lt (And.right (And.right (by with_reducible assumption))) | exact Nat.ne_of_lt (And.left (And.right (And.right (And.right (by with_reducible assumption))))) | exact Nat.ne_of_lt (And.right (And.right (And.right (by with_reducible assumption)))) | exact Nat.ne_of_lt (And.left (And.right (And.right (And.right (And.right (by with_reducible assumption)))))) | exact Nat.ne_of_lt (And.right (And.right (And.right (And.right (by with_reducible assumption))))) | exact Nat.ne_of_lt (And.left (And.right (And.right (And.right (And.right (And.right (by with_reducible assumption))))))) | exact Nat.ne_of_lt (And.right (And.right (And.right (And.right (And.right (by with_reducible assumption)))))) | exact Nat.ne_of_lt (And.left (And.right (And.right (And.right (And.right (And.right (And.right (by with_reducible assumption)))))))) | exact Nat.ne_of_lt (And.right (And.right (And.right (And.right (And.right (And.right (by with_reducible assumption))))))) | exact Nat.ne_of_lt (And.left (And.right (And.right (And.right (And.right (And.right (And.right (And.right (by with_reducible assumption))))))))) | exact Nat.ne_of_lt (And.right (And.right (And.right (And.right (And.right (And.right (And.right (by with_reducible assumption)))))))) | exact Nat.ne_of_gt (And.left (by with_reducible assumption)) | exact Nat.ne_of_gt (by with_reducible assumption) | exact Nat.ne_of_gt (And.left (And.right (by with_reducible assumption))) | exact Nat.ne_of_gt (And.right (by with_reducible assumption)) | exact Nat.ne_of_gt (And.left (And.right (And.right (by with_reducible assumption)))) | exact Nat.ne_of_gt (And.right (And.right (by with_reducible assumption))) | exact Nat.ne_of_gt (And.left (And.right (And.right (And.right (by with_reducible assumption))))) | exact Nat.ne_of_gt (And.right (And.right (And.right (by with_reducible assumption)))) | exact Nat.ne_of_gt (And.left (And.right (And.right (And.right (And.right (by with_reducible assumption)))))) | exact Nat.ne_of_gt (And.right (And.right (And.right (And.right (by with_reducible assumption))))) | exact Nat.ne_of_gt (And.left (And.right (And.right (And.right (And.right (And.right (by with_reducible assumption))))))) | exact Nat.ne_of_gt (And.right (And.right (And.right (And.right (And.right (by with_reducible assumption)))))) | exact Nat.ne_of_gt (And.left (And.right (And.right (And.right (And.right (And.right (And.right (by with_reducible assumption)))))))) | exact Nat.ne_of_gt (And.right (And.right (And.right (And.right (And.right (And.right (by with_reducible assumption))))))) | exact Nat.ne_of_gt (And.left (And.right (And.right (And.right (And.right (And.right (And.right (And.right (by with_reducible assumption))))))))) | exact Nat.ne_of_gt (And.right (And.right (And.right (And.right (And.right (And.right (And.right (by with_reducible assumption)))))))))
local macro_rules | `(tactic| k_ne) => `(tactic| (refine neN ?_; (try dsimp only); walk_at "neq"))
local macro_rules | `(tactic| walk_at "CompEnd") => `(tactic| k_extra "compend")
local macro_rules | `(tactic| walk_at "exec If") => `(tactic| k_extra "join")
local macro_rules | `(tactic| walk_at "JoinQ") => `(tactic| k_dflt (exact join_end (by assumption) (by assumption) (by (intro e9 he9; (repeat (first | with_reducible exact he9 | with_reducible refine List.mem_cons_of_mem _ ?_))))))
local macro_rules | `(tactic| walk_at "memr") => `(tactic| with_reducible (repeat (first | exact List.mem_cons_self | refine List.mem_cons_of_mem _ ?_)))
local macro_rules | `(tactic| walk_at "eval ListComp") => `(tactic| k_extra "listcomp")
local macro_rules | `(tactic| walk_at "CompSrc") => `(tactic| k_extra "compsrc")
local macro_rules | `(tactic| walk_at "subscriptTail") => `(tactic| (k_here; (with_reducible show wpAny _ _ (subscriptTail _ _ (Value.ref _) (Value.int 0 _)) _ _ _); k_dflt (refine tup0 (by k_asm) (by k_mem) ?_)))
local macro_rules | `(tactic| walk_at "subscriptTail") => `(tactic| (k_here; (with_reducible show wpAny _ _ (subscriptTail _ _ (Value.ref _) (Value.int 1 _)) _ _ _); k_dflt (refine tup1 (by k_asm) (by k_mem) ?_)))
local macro_rules | `(tactic| walk_at "subscriptTail Name Constant ref int") => `(tactic| (k_here; (with_reducible show wpAny _ _ (subscriptTail _ _ (Value.ref _) (Value.int 0 _)) _ _ _); k_dflt (refine tup0 (by k_asm) (by k_mem) ?_)))
local macro_rules | `(tactic| walk_at "subscriptTail Name Constant ref int") => `(tactic| (k_here; (with_reducible show wpAny _ _ (subscriptTail _ _ (Value.ref _) (Value.int 1 _)) _ _ _); k_dflt (refine tup1 (by k_asm) (by k_mem) ?_)))
local macro_rules | `(tactic| walk_at "subscriptTail Subscript Name UnaryOp") => `(tactic| (k_here; (with_reducible show wpAny _ _ (subscriptTail _ _ (Value.ref _) (Value.int 0 _)) _ _ _); k_dflt (refine tup0 (by k_asm) (by k_mem) ?_)))
local macro_rules | `(tactic| walk_at "subscriptTail Subscript Name UnaryOp") => `(tactic| (k_here; (with_reducible show wpAny _ _ (subscriptTail _ _ (Value.ref _) (Value.int 1 _)) _ _ _); k_dflt (refine tup1 (by k_asm) (by k_mem) ?_)))
local macro_rules | `(tactic| walk_at "call builtin:len") => `(tactic| (k_here; (with_reducible show wpAny _ _ (call (Value.builtin "len") [Value.ref _]) _ _ _); k_dflt (refine kst_len (by k_asm) (by k_mem) (by assumption) (by omega) ?_)))
local macro_rules | `(tactic| walk_at "compareOp NotEq ref ref") => `(tactic| k_extra "neref")
local macro_rules | `(tactic| walk_at "subscriptTail Name UnaryOp ref int") => `(tactic| k_extra "cutsAt")
set_option maxHeartbeats 8000000 in
theorem law_holds : PySem.Challenge.rw_sa0075_01.Holds := by
  refine hd ?_
  k_go0
  all_goals try k_fold
  k_with_none
  w_top off
  k_with "mycall" => (k_here; (with_reducible show wpAny _ _ (call (Value.ref 41) _) _ _ _); k_dflt (refine useInt (by k_asm) (by k_asm) (by k_asm) (by k_asm) (by k_asm) (by (first | exact rfl | assumption)) (by ktr_room) (by ktr_units) (gcd_c _ _ _ _ _ _ _ _ _) ?_); intro t9 h9 tk9 F9 N9; (try dsimp only); (try k_fold))
  k_with "mycall" => (k_here; (with_reducible show wpAny _ _ (call (Value.ref 48) _) _ _ _); k_dflt (refine usePair (by k_asm) (by k_asm) (by k_asm) (by k_asm) (by k_asm) (by (first | exact rfl | assumption)) (by ktr_room) (by ktr_units) (rat_c _ _ _ _ _ _ _ _ _ (by (first | assumption | omega | k_extra "side")) (by (first | assumption | omega | k_extra "side"))) ?_); intro b9 n9 t9 u9 h9 tk9 F9 N9 l9; (try simp only [AllLt, and_true] at l9); (try dsimp only); (try k_fold))
  k_with "mycall" => (k_here; (with_reducible show wpAny _ _ (call (Value.ref 55) _) _ _ _); k_dflt (refine usePair (by k_asm) (by k_asm) (by k_asm) (by k_asm) (by k_asm) (by (first | exact rfl | assumption)) (by ktr_room) (by ktr_units) (rsub_c _ _ _ _ _ (by k_mem) (by k_mem) (by (first | assumption | omega | k_extra "side")) (by (first | assumption | omega | k_extra "side")) (by (first | assumption | omega | k_extra "side")) (by (first | assumption | omega | k_extra "side")) (by (first | assumption | omega | k_extra "side"))) ?_); intro b9 n9 t9 u9 h9 tk9 F9 N9 l9; (try simp only [AllLt, and_true] at l9); (try dsimp only); (try k_fold))
  k_with "mycall" => (k_here; (with_reducible show wpAny _ _ (call (Value.ref 62) _) _ _ _); k_dflt (refine usePair (by k_asm) (by k_asm) (by k_asm) (by k_asm) (by k_asm) (by (first | exact rfl | assumption)) (by ktr_room) (by ktr_units) (rneg_c _ _ _ _ _ (by k_mem)) ?_); intro b9 n9 t9 u9 h9 tk9 F9 N9 l9; (try simp only [AllLt, and_true] at l9); (try dsimp only); (try k_fold))
  k_with "mycall" => (k_here; (with_reducible show wpAny _ _ (call (Value.ref 69) _) _ _ _); k_dflt (refine usePair (by k_asm) (by k_asm) (by k_asm) (by k_asm) (by k_asm) (by (first | exact rfl | assumption)) (by ktr_room) (by ktr_units) (rinv_c _ _ _ _ _ (by k_mem) (by (first | assumption | omega | k_extra "side")) (by (first | assumption | omega | k_extra "side"))) ?_); intro b9 n9 t9 u9 h9 tk9 F9 N9 l9; (try simp only [AllLt, and_true] at l9); (try dsimp only); (try k_fold))
  k_with "mycall" => (k_here; (with_reducible show wpAny _ _ (call (Value.ref 76) _) _ _ _); k_dflt (refine useInt (by k_asm) (by k_asm) (by k_asm) (by k_asm) (by k_asm) (by (first | exact rfl | assumption)) (by ktr_room) (by ktr_units) (rcompare_c _ _ _ _ _ (by k_mem) (by k_mem) (by (first | assumption | omega | k_extra "side")) (by (first | assumption | omega | k_extra "side"))) ?_); intro t9 h9 tk9 F9 N9; (try dsimp only); (try k_fold))
  k_with "mycall" => (k_here; (with_reducible show wpAny _ _ (call (Value.ref 83) _) _ _ _); k_dflt (refine useInt (by k_asm) (by k_asm) (by k_asm) (by k_asm) (by k_asm) (by (first | exact rfl | assumption)) (by ktr_room) (by ktr_units) (rfloor_c _ _ _ _ _ (by k_mem) (by (first | assumption | omega | k_extra "side")) (by (first | assumption | omega | k_extra "side"))) ?_); intro t9 h9 tk9 F9 N9; (try dsimp only); (try k_fold))
  k_with "mycall" => (k_here; (with_reducible show wpAny _ _ (call (Value.ref 90) _) _ _ _); k_dflt (refine useInts (by k_asm) (by k_asm) (by k_asm) (by k_asm) (by k_asm) (by (first | exact rfl | assumption)) (by ktr_room) (by ktr_units) (frow_c _ _ _ _ _ (by k_mem) (by (first | assumption | k_extra "frow")) (by omega)) ?_); intro b9 n9 w9 h9 tk9 I9 F9 N9 l9; (try simp only [AllLt, and_true] at l9); (try dsimp only); (try k_fold))
  k_with "mycall" => (k_here; (with_reducible show wpAny _ _ (call (Value.ref 97) _) _ _ _); k_dflt (refine usePairs (by k_asm) (by k_asm) (by k_asm) (by k_asm) (by k_asm) (by (first | exact rfl | assumption)) (by ktr_room) (by ktr_units) (conv_c _ _ _ _ _ (by k_mem) (by assumption) (by (first | assumption | k_extra "conv")) (by (first | assumption | omega))) ?_); intro b9 n9 w9 tl9 h9 tk9 P9 F9 N9 l9 o9; (try simp only [AllLt, and_true] at l9); (try dsimp only); (try k_fold))
  k_with "mycall" => (k_here; (with_reducible show wpAny _ _ (call (Value.ref 111) _) _ _ _); k_dflt (refine useRef2f (by k_asm) (by k_asm) (by k_asm) (by k_asm) (by k_asm) (by (first | exact rfl | assumption)) (by ktr_room) (by ktr_units) (near_c _ _ _ _ _ (by k_mem) (by k_mem) (by k_mem) (by (first | assumption | k_extra "near" | omega)) (by (first | assumption | k_extra "near" | omega)) (by (first | assumption | k_extra "near" | omega)) (by (first | assumption | k_extra "near" | omega)) (by (first | assumption | k_extra "near" | omega)) (by (first | assumption | k_extra "near" | omega)) (by (first | assumption | k_extra "near" | omega)) (by (first | assumption | k_extra "near" | omega)) (by (first | assumption | k_extra "near" | omega)) (by (first | assumption | k_extra "near" | omega))) (by k_extra "nearF") ?_); intro h9 tk9 F9 N9; (try dsimp only); (try k_fold))
  k_with "mycall" => (k_here; (with_reducible show wpAny _ _ (call (Value.ref 111) _) _ _ _); k_dflt (refine useRef2t (by k_asm) (by k_asm) (by k_asm) (by k_asm) (by k_asm) (by (first | exact rfl | assumption)) (by ktr_room) (by ktr_units) (near_c _ _ _ _ _ (by k_mem) (by k_mem) (by k_mem) (by (first | assumption | k_extra "near" | omega)) (by (first | assumption | k_extra "near" | omega)) (by (first | assumption | k_extra "near" | omega)) (by (first | assumption | k_extra "near" | omega)) (by (first | assumption | k_extra "near" | omega)) (by (first | assumption | k_extra "near" | omega)) (by (first | assumption | k_extra "near" | omega)) (by (first | assumption | k_extra "near" | omega)) (by (first | assumption | k_extra "near" | omega)) (by (first | assumption | k_extra "near" | omega))) (by k_extra "nearT") ?_); intro h9 tk9 F9 N9; (try dsimp only); (try k_fold))
  k_with "mycall" => (k_here; (with_reducible show wpAny _ _ (call (Value.ref 160) _) _ _ _); k_dflt (refine useBool (by k_asm) (by k_asm) (by k_asm) (by k_asm) (by k_asm) (by (first | exact rfl | assumption)) (by ktr_room) (by ktr_units) (close_c _ _ _ _ _ (by k_mem) (by (first | assumption | omega | k_extra "side")) (by (first | assumption | omega | k_extra "side")) (by (first | assumption | omega | k_extra "side"))) ?_); intro h9 tk9 F9 N9; (try dsimp only); (try k_fold))
  k_with "mycall" => (k_here; (with_reducible show wpAny _ _ (call (Value.ref 125) _) _ _ _); k_dflt (refine useList (by k_asm) (by k_asm) (by k_asm) (by k_asm) (by k_asm) (by (first | exact rfl | assumption)) (by ktr_room) (by ktr_units) (settled_c _ _ _ _ _ (by k_mem) (by (first | assumption | repeat constructor)) (by (first | assumption | k_extra "settled0" | (intro hNil; cases hNil))) (by (first | assumption | k_extra "settled1" | (simp only [List.length_cons, List.length_nil]; omega)))) ?_); intro b9 n9 w9 h9 tk9 I9 F9 N9 O9; (try dsimp only); (try k_fold))
  k_with "mycall" => (k_here; (with_reducible show wpAny _ _ (call (Value.ref 132) _) _ _ _); k_dflt (refine useList (by k_asm) (by k_asm) (by k_asm) (by k_asm) (by k_asm) (by (first | exact rfl | assumption)) (by ktr_room) (by ktr_units) (minus_c _ _ _ _ _ (by k_mem) (by assumption) (by (first | assumption | k_extra "minus")) (by (first | assumption | omega | k_extra "minus")) (by (first | assumption | k_extra "minus"))) ?_); intro b9 n9 w9 h9 tk9 I9 F9 N9 O9; (try dsimp only); (try k_fold))
  k_with "mycall" => (k_here; (with_reducible show wpAny _ _ (call (Value.ref 139) _) _ _ _); k_dflt (refine useList (by k_asm) (by k_asm) (by k_asm) (by k_asm) (by k_asm) (by (first | exact rfl | assumption)) (by ktr_room) (by ktr_units) (over_c _ _ _ _ _ (by k_mem) (by assumption) (by (first | assumption | k_extra "over"))) ?_); intro b9 n9 w9 h9 tk9 I9 F9 N9 O9; (try dsimp only); (try k_fold))
  k_with "mycall" => (k_here; (with_reducible show wpAny _ _ (call (Value.ref 146) _) _ _ _); k_dflt (refine usePair (by k_asm) (by k_asm) (by k_asm) (by k_asm) (by k_asm) (by (first | exact rfl | assumption)) (by ktr_room) (by ktr_units) (value_c _ _ _ _ _ (by k_mem) (by assumption) (by (first | assumption | k_extra "value")) (by (first | assumption | k_extra "value")) (by (first | assumption | k_extra "value"))) ?_); intro b9 n9 t9 u9 h9 tk9 F9 N9 l9; (try simp only [AllLt, and_true] at l9); (try dsimp only); (try k_fold))
  k_with "mycall" => (k_here; (with_reducible show wpAny _ _ (call (Value.ref 118) _) _ _ _); k_dflt (refine useDraw (by k_asm) (by k_asm) (by k_asm) (by k_asm) (by k_asm) (by (first | exact rfl | assumption)) (by ktr_room) (by ktr_units) (draw_c _ _ _ _ _ (by walk_at "rst") (by k_mem) (by k_mem) (by k_ne) (by (first | assumption | k_extra "drawI")) (by (first | assumption | omega | k_extra "draw")) (by (first | assumption | omega | k_extra "draw")) (by (first | assumption | omega | k_extra "draw")) (by ((try simp only [List.length_map, List.length_take]); omega)) (by (first | assumption | omega | k_extra "draw"))) (by omega) ?_); intro y9 t9 u9 h9 tk9 lo9 hi9 F9 N9; (try dsimp only); (try k_fold))
  k_with "mycall" => (k_here; (with_reducible show wpAny _ _ (call (Value.ref 153) _) _ _ _); k_dflt (refine useBool (by k_asm) (by k_asm) (by k_asm) (by k_asm) (by k_asm) (by (first | exact rfl | assumption)) (by ktr_room) (by ktr_units) (sides_c _ _ _ _ _ (by k_mem) (by k_mem) (by (first | assumption | k_extra "pairs")) (by (first | assumption | omega | k_extra "side")) (by (first | assumption | omega | k_extra "side")) (by (first | assumption | k_extra "sides"))) ?_); intro h9 tk9 F9 N9; (try dsimp only); (try k_fold))
  k_with "mycall" => (k_here; (with_reducible show wpAny _ _ (call (Value.ref 165) _) _ _ _); k_dflt (refine useBool (by k_asm) (by k_asm) (by k_asm) (by k_asm) (by k_asm) (by (first | exact rfl | assumption)) (by ktr_room) (by ktr_units) (closeR_c _ _ _ _ _ (by k_mem) (by k_mem) (by (first | assumption | k_extra "pairs")) (by (first | assumption | omega | k_extra "side")) (by (first | assumption | omega | k_extra "side")) (by (first | assumption | omega | k_extra "side")) (by (first | assumption | omega | k_extra "side")) (by (first | assumption | k_extra "vah")) (by (first | assumption | k_extra "leg"))) ?_); intro h9 tk9 F9 N9; (try dsimp only); (try k_fold))
  k_with "listcomp" => ((with_reducible show wpAny _ _ (eval (Expr.ListComp (Expr.BinOp _ _ _ _) _ _ _) _) _ _ _); k_dflt (refine LCg.ListComp_U (F₀ := by k_asm) (by with_unfolding_all rfl) (by decide) (by rfl) (by decide) (by rfl) ?_))
  k_with "compsrc" => k_dflt ((rename Fr _ _ _ _ => lF'); (rename News _ _ _ _ => lN'); (rename IsRange _ _ _ _ _ _ _ _ => rgX); (refine LCg.CompSrc.range (by rfl) lF' (newsPick lN' (by k_mem) (by walk_at "rst")) rgX (by exact small_one (by omega) (by omega) (by omega) (by omega)) (by exact rangeSize_nat _ _) (by rw [sizeLine_eq]; omega) ?_); intro g5; (refine comp_draw ?hc6 ?kt6 ?kf6); (case hc6 => omega); (case' kt6 => (intro k5 i5 ys5 c5 t5 hi5 hJ5 IH5 v5 I5 oI5 C5 oC5 D5 m5 h5 tk5 E5 hC5 hx5 F5 N5 off5 ne5; (have off6 := off5); (obtain ⟨q5, q6, q7⟩ := off6.1); clear off6; (obtain ⟨hc5, hc6⟩ := hJ5.bnd hi5 (by assumption)); clear lF' lN'; (try k_fold))); (case' kf6 => (intro ys6 c6 t6 hJ6; (obtain ⟨⟨items, hI6, hn6, hx6⟩, hc6⟩ := hJ6); (obtain ⟨hl6, hl7, hl8⟩ := len_four hn6 (by assumption)); clear lF' lN'; (try k_fold))))
  k_with "compend" => k_dflt (exact LCg.CompEnd.intro (by assumption) (by assumption) _ (by kcf_all) (off3_head off5) (by first | lcg_src | assumption) (IH5 _ _ _ (DrJ.snocD hJ5 (by with_reducible assumption) (by with_reducible assumption))))
  k_with "settled0" => (first | k_dflt (exact List.cons_ne_nil _ _) | k_dflt (exact dropRev_ne (by omega)))
  k_with "settled1" => ((try simp only [List.length_append, List.length_cons, List.length_nil, List.length_reverse, List.length_drop]); omega)
  k_with "frow" => (first | exact RF.f1 | exact RF.f2 | exact RF.f3 (by assumption) | exact K7.h)
  k_with "sides" => exact CF.sides
  k_with "vah" => exact CF.vah
  k_with "leg" => exact CF.leg
  k_with "over" => k_dflt (exact RF.ov (by assumption))
  k_with "pairs" => (refine Pairs.mono ?_ P9; intro e9 he9; (repeat (first | with_reducible exact he9 | with_reducible refine List.mem_cons_of_mem _ ?_)))
  k_with "neref" => k_dflt (refine ne_same (by k_asm) (by k_mem) (by k_mem) (by assumption) (by assumption) (by ktr_units) ?_)
  k_with "neref" => ((with_reducible show wpAny _ _ (compareOp _ (Value.ref a8) _) _ _ _); k_dflt (refine ne_pair (by k_asm) (by k_mem) (by k_mem) (by ktr_units) ?_))
  k_with "cutsAt" => ((with_reducible show wpAny _ _ (subscriptTail _ _ (Value.ref _) (Value.int (-1) _)) _ _ _); k_dflt (refine atLast (by k_asm) (by k_mem) 1 (by rfl) Nat.one_pos (by rw [hW9]; exact hR0) (by rw [hW9]; exact Nat.le_trans hR2 (by decide)) (by assumption) ?_))
  k_with "cutsAt" => ((with_reducible show wpAny _ _ (subscriptTail _ _ (Value.ref _) (Value.int (-2) _)) _ _ _); (have hX7 : (1 : Int) < (row.length : Int) := by with_reducible assumption); (obtain ⟨c7, hc7, K7⟩ := keepBack CF (Int.ofNat_lt.mp hX7)); (obtain ⟨a6, n6, t6, u6, e6, m6⟩ := P9.get hc7); (rw [← P9.length] at e6); (rename News _ _ _ _ => lN'); (have lN6 := newsDup (e := (a6, tupO [.int c7.1 t6, .int c7.2 u6] n6)) lN' (by (repeat (first | with_reducible exact m6 | with_reducible refine List.mem_cons_of_mem _ ?_)))); clear lN'; k_dflt (refine atLast lN6 (by k_mem) 2 (by rfl) Nat.two_pos (by rw [hW9]; exact Int.ofNat_lt.mp hX7) (by rw [hW9]; exact Nat.le_trans hR2 (by decide)) (by assumption) ?_))
  k_with "join" => ((fail_if_success (fail_if_success (rename RowFacts _ => rZ))); (fail_if_success (rename Pairs _ _ _ => rZ)); (fail_if_success (with_reducible show wpAny _ _ _ (JoinQ _ _ _ _ _) _ _)); k_dflt (refine join_stmt (by k_asm) (by k_asm) ?_ ?_); rotate_left; (intro h9 tk9 F9 N9; (try dsimp only); (try k_fold)); rotate_left)
  k_with "call ref" => ((with_reducible show wpAny _ _ (call (Value.ref 97) _) _ _ _); (rename News _ _ _ _ => lN'); (have lN6 := newsTwo (p := (valueZ row).1) (q := (valueZ row).2) rJ lN' (by walk_at "memr") (by walk_at "memr")); clear lN'; k_dflt (refine useCuts CF RF.ne (by k_asm) (by k_asm) (by k_asm) (by k_asm) (by k_asm) (by (first | exact rfl | assumption)) (by ktr_room) (by ktr_units) (conv_c _ _ _ _ _ (by k_mem) (by assumption) CF.conv (by omega)) ?_); intro b9 n9 w9 tl9 h9 tk9 a8 n8 t8 u8 P9 hW9 e8 F9 N9; (have hC9 := CF.len); simp only [List.cons_append, List.nil_append] at N9; (try dsimp only); (try k_fold))
  k_with "call ref" => ((with_reducible show wpAny _ _ (call (Value.ref 146) _) _ _ _); (fail_if_success (rename RowFacts _ => rZ)); (rename IntsAre _ (settledZ _) => rI); (obtain ⟨row, rJ, RF⟩ := row_of rI (by assumption) (by assumption) hl6 hx6); clear rI; (obtain ⟨cs, CF⟩ := RF.cut); (have hR1 := RF.ne); (have hR0 := List.length_pos_iff.mpr hR1); (have hR2 := RF.len); (have hR3 := RF.sm); (have hR4 := RF.q0); (have hR5 := RF.ps); (have hR6 := RF.qs); (obtain ⟨-, hR9, hR10⟩ := minusOk_is RF.mok); (have hR14 : row.length ≤ 6 := by omega); (have hR15 := rJ.length); (rename News _ _ _ _ => lN'); (have lN6 := newsHead lN'); clear lN')
  k_steps
end
local macro_rules | `(tactic| walk_at "none 18") => `(tactic| skip)
local macro_rules | `(tactic| walk_at "none 19") => `(tactic| skip)
local macro_rules | `(tactic| walk_at "none 20") => `(tactic| skip)
local macro_rules | `(tactic| walk_at "none 21") => `(tactic| skip)
local macro_rules | `(tactic| walk_at "none 22") => `(tactic| skip)
local macro_rules | `(tactic| walk_at "none 23") => `(tactic| skip)
local macro_rules | `(tactic| walk_at "none 24") => `(tactic| skip)
local macro_rules | `(tactic| walk_at "none 25") => `(tactic| skip)
local macro_rules | `(tactic| walk_at "none 26") => `(tactic| skip)
local macro_rules | `(tactic| walk_at "none 27") => `(tactic| skip)
local macro_rules | `(tactic| walk_at "none 28") => `(tactic| skip)
local macro_rules | `(tactic| walk_at "none 29") => `(tactic| skip)
local macro_rules | `(tactic| walk_at "none 30") => `(tactic| skip)
local macro_rules | `(tactic| walk_at "none 31") => `(tactic| skip)
local macro_rules | `(tactic| walk_at "none 32") => `(tactic| skip)
local macro_rules | `(tactic| walk_at "none 33") => `(tactic| skip)
local macro_rules | `(tactic| walk_at "none 34") => `(tactic| skip)

end Mine
set_option maxHeartbeats 8000000 in
theorem PySem.Challenge.cw_sa0075_01_holds : PySem.Challenge.rw_sa0075_01.Holds := by
  exact Mine.law_holds
