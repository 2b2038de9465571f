import PyProof.Rows.All
import Wide.All
import OpenK.AllK
import Wide.FinOn
import Lean
import PySem.Challenge.RW_xm0400_01
open PySem PySem.W PySem.Calls PySem.Spec PyProof.Rows PyProof.V
set_option Elab.async false
set_option maxRecDepth 100000
set_option rowWalk.seconds 0
set_option linter.unusedVariables false
set_option linter.unusedSimpArgs false
namespace Mine
set_option maxHeartbeats 8000000 in
open_top hd for PySem.Challenge.rw_xm0400_01
end Mine

namespace Mine

section
variable {prog : Program} {w : World} {A₀ A : Around} {s : Shared} {base h₀ : Heap} {outer : List Env} {L : Addr} {m : Str → Option Value} {env : Env} {K : Frag} {p : Program} {loose : List Str} {mean : ExcName → Option Value} {mg mb : Str → Option Value}
  {R : Result → Shared → Prop} {name qual : Str} {params : Arguments} {body : List Stmt} {scope : Scope} {dV kV doc pm cdv ct oc : Value} {an od : Option Addr} {osl : Array (Option Value)} {f : Addr} {args : Args} {binds : List (Str × Value)}

/-- a def is entered over the whole heap: the callee owns nothing at its start -/
theorem enter2 (B : Below A₀ base outer h₀) (F : Fr h₀ L s.heap m) (X₀ : K.In h₀) (T : Top p loose mean mg mb h₀) (hA : A.frames = some (env :: outer)) (hf : env.frame = some L) (hke : env.scope.kind = .function)
    (ho : K.lookup f = some ⟨oc, od, .func (fnOf name qual params body scope dV kV doc pm an cdv ct), osl⟩) (hcd : codeIn K cdv qual = true) (hroom : A.depth < recursionLimit)
    (hbind : BindsTo s (fnOf name qual params body scope dV kV doc pm an cdv ct) args binds) (hloc : ∀ y ∈ binds, scope.names.lookup y.1 = some .local)
    (h : ∀ (Q' : Flow → Shared → Prop) (E' : Value → Shared → Prop), (∀ v s', R (.ok (.ret v)) s' → Q' (.ret v) s') → ∀ L' h₁, PassesOwn (model prog w) (A.deeper (envOf qual scope L' f cdv)) (envOf qual scope L' f cdv) E' → Fr s.heap L' h₁ (fun y => binds.reverse.lookup y) → News s.heap L' h₁ [] → Below A base (env :: outer) s.heap → K.In s.heap → Top p loose mean mg mb s.heap →
      wpAny (model prog w) (A.deeper (envOf qual scope L' f cdv)) (execs body (envOf qual scope L' f cdv)) Q' E' { s with heap := h₁, toks := s.toks + binds.length })
    (hco : scope.isCoroutine = false) (hgen : scope.isGenerator = false) (hk : scope.kind = .function)
    (hcell : ∀ x ∈ scope.names, x.2 ≠ .cell) : codeAny (model prog w) A (.call (.ref f) args) R s := by
  have X := X₀.keeps F.keep
  refine codeAny_call_def (fd := fnOf name qual params body scope dV kV doc pm an cdv ct) (body := body) (binds := binds) hroom (X _ _ ho) rfl (T.nolimit.keeps F.keep) (codeRec_of X hcd) rfl hbind hcell hloc (fun h₁ hns hk₁ => ?_) hco hgen hk
  exact h _ _ (fun _ _ z => z) s.heap.objs.size h₁ (by passes_own) ⟨hns, hk₁, Nat.le_refl _⟩ News.nil ⟨hA, fun b o e => F.keep b o (B.stays b o e), (pushX B F hf hke).frames⟩ X (T.keeps F.keep)
end

section
variable {h₀ g h' : Heap} {L L' D : Addr} {m m' : Str → Option Value} {news nw : List (Addr × Obj)} {o : Obj}
/-- what the caller knows behind a call that has kept its whole heap -/
theorem backF (F : Fr h₀ L g m) (F' : Fr g L' h' m') : Fr h₀ L h' m := ⟨F.ns.keeps F'.keep, fun b o e => F'.keep b o (F.keep b o e), F.above⟩
theorem backN (N : News h₀ L g news) (F' : Fr g L' h' m') : News h₀ L h' news := fun p hp => ⟨F'.keep _ _ (N p hp).1, (N p hp).2.1, (N p hp).2.2⟩
theorem backD (F : Fr h₀ L g m) (N : News h₀ L g news) (F' : Fr g L' h' m') (N' : News g L' h' nw) (hm : (D, o) ∈ nw) : News h₀ L h' ((D, o) :: news) := by
  intro p hp
  rcases List.mem_cons.mp hp with rfl | hp
  · refine ⟨(N' _ hm).1, fun q => ?_, ?_⟩
    · obtain ⟨oL, _, _, hL, _⟩ := F.ns
      have := (N' _ hm).2.2
      simp only at q this
      rw [q, hL] at this
      cases this
    · cases q : h₀.get? D with
      | none => rfl
      | some o' => have := (N' _ hm).2.2; rw [F.keep _ _ q] at this; cases this
  · exact backN N F' p hp
theorem backNe (N : News h₀ L g news) (N' : News g L' h' nw) (hm : (D, o) ∈ nw) : ∀ p ∈ news, p.1 ≠ D := fun p hp q => by
  have h1 := (N p hp).1
  have h2 := (N' _ hm).2.2
  simp only at h2
  rw [q, h2] at h1
  cases h1
end

noncomputable def NeAll (D : Addr) (news : List (Addr × Obj)) : Prop := ∀ p ∈ news, p.1 ≠ D

abbrev RetL (h₀ : Heap) (L : Addr) (m : Str → Option Value) (news : List (Addr × Obj)) (s : Shared) (Q : Value → Shared → Prop) (ns : List Int) : Prop :=
  ∀ (D : Addr) (vs : List Value) (c : Nat) (h' : Heap) (tk' : Nat), Fr h₀ L h' m → News h₀ L h' ((D, listOf vs.toArray c) :: news) → NeAll D news → IntsAre vs ns → Q (.ref D) { s with heap := h', toks := tk' }
abbrev RetI (h₀ : Heap) (L : Addr) (m : Str → Option Value) (news : List (Addr × Obj)) (s : Shared) (Q : Value → Shared → Prop) (n : Int) : Prop :=
  ∀ (t : Tok) (h' : Heap) (tk' : Nat), Fr h₀ L h' m → News h₀ L h' news → Q (.int n t) { s with heap := h', toks := tk' }

/-- what is said of a def: f called by vs, from any def's frame -/
noncomputable def Says (w : World) (mean : ExcName → Option Value) (mg mb : Str → Option Value) (f : Addr) (d u : Nat) (vs : List Value) (pre : Heap → Prop)
    (ret : Heap → Addr → (Str → Option Value) → List (Addr × Obj) → Shared → (Value → Shared → Prop) → Prop) : Prop :=
  ∀ (dp un : Nat) (gd : Option (List Code)) (cn : Str) (cs : Scope) (a : Addr) (ccd : Value) (cl : List (Str × Addr)) (outer : List Env) (A₀ : Around) (base h₀ : Heap) (L : Addr) (m : Str → Option Value) (news : List (Addr × Obj)) (s : Shared) (Q E : Value → Shared → Prop),
    Below A₀ base outer h₀ → Fr h₀ L s.heap m → (hd.heap_39 w.params).In h₀ → News h₀ L s.heap news → Top hd.view_39 (looseW hd.view_39 []) mean mg mb h₀ → cs.kind = .function →
    dp + d < recursionLimit → un + u < cLine → pre s.heap → ret h₀ L m news s Q →
    wpAny (model PySem.Challenge.rw_xm0400_01.row.prog w) (ktrTop dp un gd cn cs L a ccd cl outer) (call (.ref f) vs) Q E s

theorem retL_of {h₀ g : Heap} {L L' : Addr} {m : Str → Option Value} {news : List (Addr × Obj)} {s : Shared} {Q : Value → Shared → Prop} {Q' : Flow → Shared → Prop} {ns : List Int} (hs : s.heap = g) (h : RetL h₀ L m news s Q ns) (F : Fr h₀ L s.heap m) (N : News h₀ L s.heap news) (hq : ∀ v s', Q v s' → Q' (.ret v) s') :
    ∀ (D : Addr) (vs : List Value) (c : Nat) (h' : Heap) (tk' : Nat) (m' : Str → Option Value) (nw : List (Addr × Obj)) (ms : List Int), Fr g L' h' m' → News g L' h' nw → (D, listOf vs.toArray c) ∈ nw → IntsAre vs ms → ms = ns → Q' (.ret (.ref D)) { s with heap := h', toks := tk' } := by
  subst hs
  intro D vs c h' tk' m' nw ms F' N' hm hi e
  subst e
  exact hq _ _ (h D vs c h' tk' (backF F F') (backD F N F' N' hm) (backNe N N' hm) hi)
theorem retI_of {h₀ g : Heap} {L L' : Addr} {m : Str → Option Value} {news : List (Addr × Obj)} {s : Shared} {Q : Value → Shared → Prop} {Q' : Flow → Shared → Prop} {n : Int} (hs : s.heap = g) (h : RetI h₀ L m news s Q n) (F : Fr h₀ L s.heap m) (N : News h₀ L s.heap news) (hq : ∀ v s', Q v s' → Q' (.ret v) s') :
    ∀ (t : Tok) (h' : Heap) (tk' : Nat) (m' : Str → Option Value) (k : Int), Fr g L' h' m' → k = n → Q' (.ret (.int k t)) { s with heap := h', toks := tk' } := by
  subst hs
  intro t h' tk' m' k F' e
  subst e
  exact hq _ _ (h t h' tk' (backF F F') (backN N F'))

/-- room for a call, from the room of its caller -/
theorem room_ok {dp d i k c : Nat} (h : dp + d < c) (hk : Nat.ble (i + k) d = true) : dp + i + k < c := by
  rw [Nat.add_assoc]
  exact Nat.lt_of_le_of_lt (Nat.add_le_add_left (Nat.le_of_ble_eq_true hk) _) h
theorem len_lt62 {n : Nat} (h : n ≤ 1000) : n < 2 ^ 62 := Nat.lt_of_le_of_lt h (by decide)
theorem nn_off {a : Int} {n : Nat} (h : a = 0 + (n : Int)) : 0 ≤ a := by rw [h, Int.zero_add]; exact Int.natCast_nonneg n
theorem up_lo {c r a : Int} (h : 0 ≤ r) (e : a ≤ c) : a ≤ c + r := Int.le_trans e (Int.le_add_of_nonneg_right h)
theorem up_lt {c r a : Int} (h : 0 ≤ r) (e : a < c) : a < c + r := Int.lt_of_lt_of_le e (Int.le_add_of_nonneg_right h)
theorem up_hl {c r k d : Int} (h : r < k) (e : c + k ≤ d) : c + r < d := Int.lt_of_lt_of_le (Int.add_lt_add_left h c) e
theorem up_hi {c r k d : Int} (h : r < k) (e : c + k ≤ d + 1) : c + r ≤ d := Int.le_of_lt_add_one (up_hl h e)
theorem up_nat {c r k : Int} {d : Nat} (h : r < k) (e : c + k ≤ (d : Int) + 2) : (c + r - 1).toNat ≤ d := by omega
theorem le_h {n : Nat} (h : n ≤ 100) : n ≤ 1000 := Nat.le_trans h (by decide)
theorem neg_off {a b : Int} {n : Nat} (h : a = 0 + (n : Int)) (e : b ≤ 0) : b ≤ a := Int.le_trans e (nn_off h)
theorem z_off {a : Int} {n : Nat} (h : a = 0 + (n : Int)) : a = (n : Int) := by rw [h, Int.zero_add]
theorem lt_z {a b : Int} (e : a < 0) (h : 0 ≤ b) : a < b := Int.lt_of_lt_of_le e h
theorem le_z {a b : Int} (e : a ≤ 0) (h : 0 ≤ b) : a ≤ b := Int.le_trans e h
theorem le64 {a b : Int} (h : a ≤ 64) (e : 64 ≤ b) : a ≤ b := Int.le_trans h e
theorem lt64 {a b : Int} (h : a ≤ 64) (e : 64 < b) : a < b := Int.lt_of_le_of_lt h e
theorem le1000 {a b : Int} (h : a ≤ 1000) (e : 1000 ≤ b) : a ≤ b := Int.le_trans h e
theorem lt1000 {a b : Int} (h : a ≤ 1000) (e : 1000 < b) : a < b := Int.lt_of_le_of_lt h e
theorem le12 {a b : Int} (h : a ≤ 12) (e : 12 ≤ b) : a ≤ b := Int.le_trans h e
theorem lt12 {a b : Int} (h : a ≤ 12) (e : 12 < b) : a < b := Int.lt_of_le_of_lt h e
theorem le900 {a b : Int} (h : a ≤ 900) (e : 900 ≤ b) : a ≤ b := Int.le_trans h e
theorem lt900 {a b : Int} (h : a ≤ 900) (e : 900 < b) : a < b := Int.lt_of_le_of_lt h e
theorem nle1000 {a b : Nat} (h : a ≤ 1000) (e : 1000 ≤ b) : a ≤ b := Nat.le_trans h e
theorem ne_z {a : Int} (h : 0 < a) : ¬ a = 0 := fun e => Int.lt_irrefl 0 (e ▸ h)
end Mine

/-! the plain functions: what each def hands back, as functions of the lists' ints -/
namespace Mine

noncomputable def normalF : List Int → List Int
  | [] => []
  | x :: r => match normalF r with
    | [] => if x = 0 then [] else [x]
    | y :: t => x :: y :: t

noncomputable def cmpGo : List Int → List Int → Int
  | x :: r, y :: t => if x = y then cmpGo r t else if x < y then -1 else 1
  | _, _ => 0
noncomputable def compareF (a b : List Int) : Int :=
  if a.length ≠ b.length then (if a.length < b.length then -1 else 1) else cmpGo a.reverse b.reverse

noncomputable def addSt (f : Nat → Int) (B : Int) : Nat → List Int × Int
  | 0 => ([], 0)
  | k + 1 => match addSt f B k with
    | (r, c) => (r ++ [(c + f k) % B], (c + f k) / B)
noncomputable def addF (a b : List Int) (w : Int) : List Int :=
  match addSt (fun k => a.getD k 0 + b.getD k 0) (2 ^ w.toNat) (max a.length b.length) with
  | (r, c) => if 0 < c then r ++ [c] else r

noncomputable def subSt (f g : Nat → Int) (B : Int) : Nat → List Int × Int
  | 0 => ([], 0)
  | k + 1 => match subSt f g B k with
    | (r, c) => (r ++ [if f k - c - g k < 0 then f k - c - g k + B else f k - c - g k], if f k - c - g k < 0 then 1 else 0)
noncomputable def subF (a b : List Int) (w : Int) : List Int := normalF (subSt (fun k => a.getD k 0) (fun k => b.getD k 0) (2 ^ w.toNat) a.length).1

noncomputable def liftedF (a : List Int) (spot : Int) : List Int := if a = [] then [] else List.replicate spot.toNat 0 ++ a
noncomputable def addAtF (a b : List Int) (spot w : Int) : List Int :=
  if b = [] then a else if (a.length : Int) ≤ spot then a ++ List.replicate (spot - a.length).toNat 0 ++ b else a.take spot.toNat ++ addF (a.drop spot.toNat) b w
noncomputable def lowF (a : List Int) (n w : Int) : List Int :=
  if (a.length : Int) ≤ n / w then a else normalF (a.take (n / w).toNat ++ [a.getD (n / w).toNat 0 % 2 ^ (n % w).toNat])

/-- the inner turns of both schools: k of them, from found and no carry -/
noncomputable def rowSt (found : List Int) (at_ : Nat) (ai : Int) (b : List Int) (B : Int) : Nat → List Int × Int
  | 0 => (found, 0)
  | k + 1 => match rowSt found at_ ai b B k with
    | (r, c) => (r.set (at_ + k) ((c + (r.getD (at_ + k) 0 + ai * b.getD k 0)) % B), (c + (r.getD (at_ + k) 0 + ai * b.getD k 0)) / B)
noncomputable def lowSchoolSt (a b : List Int) (n : Nat) (B : Int) : Nat → List Int
  | 0 => List.replicate n 0
  | k + 1 => match rowSt (lowSchoolSt a b n B k) k (a.getD k 0) b B (min b.length (n - k)) with
    | (r, c) => if k + min b.length (n - k) < n then r.set (k + min b.length (n - k)) c else r
noncomputable def lowSchoolF (a b : List Int) (n w : Int) : List Int := normalF (lowSchoolSt a b n.toNat (2 ^ w.toNat) (min a.length n.toNat))
noncomputable def mulSt (a b : List Int) (B : Int) : Nat → List Int
  | 0 => List.replicate (a.length + b.length) 0
  | k + 1 => match rowSt (mulSt a b B k) k (a.getD k 0) b B b.length with
    | (r, c) => r.set (k + b.length) c
noncomputable def mulF (a b : List Int) (w : Int) : List Int := normalF (mulSt a b (2 ^ w.toNat) a.length)

noncomputable def cutF (n : Int) : Int := if n - 1 < (7 * n + 9) / 10 then n - 1 else (7 * n + 9) / 10
noncomputable def lowLimbsF (a : List Int) (n : Int) : List Int := normalF (a.take n.toNat)

noncomputable def baseF (a b : List Int) (n w : Int) : List Int := lowSchoolF (lowLimbsF a n) (lowLimbsF b n) n w
/-- low_product with least = 4 and n up to 12: the parts of a long one are short -/
noncomputable def lowProductF (a b : List Int) (n w : Int) : List Int :=
  if n < 4 then baseF a b n w
  else
    lowLimbsF (addAtF (lowLimbsF (mulF (lowLimbsF (lowLimbsF a n) (cutF n)) (lowLimbsF (lowLimbsF b n) (cutF n)) w) n)
      (addF (baseF ((lowLimbsF a n).drop (cutF n).toNat) (lowLimbsF b n) (n - cutF n) w)
        (baseF (lowLimbsF a n) ((lowLimbsF b n).drop (cutF n).toNat) (n - cutF n) w) w) (cutF n) w) n

noncomputable def invLimbGo (d w : Int) : Nat → Int → Int → Int
  | 0, found, _ => found
  | k + 1, found, sure => if sure < w then invLimbGo d w k (found * ((2 - d * found) % 2 ^ w.toNat) % 2 ^ w.toNat) (2 * sure) else found
noncomputable def invLimbF (d w : Int) : Int := invLimbGo d w 64 (d % 2 ^ w.toNat) 3

noncomputable def complementF (a : List Int) (n w : Int) : List Int :=
  lowLimbsF (addF (normalF ((List.range n.toNat).map fun k => (2 ^ w.toNat - 1) - a.getD k 0)) [1] w) n

/-- every limb small: what the products ask -/
noncomputable def smB (a : List Int) : Bool := a.all fun x => decide (0 ≤ x) && decide (x < 2 ^ 63)
noncomputable def invStep (b found : List Int) (size w : Int) : List Int :=
  lowLimbsF (mulF found (lowLimbsF (addF (complementF (lowLimbsF (mulF (lowLimbsF b size) found w) size) size w) [2] w) size) w) size
noncomputable def invGo (b : List Int) (n w : Int) : Nat → List Int → Int → List Int
  | 0, found, _ => found
  | k + 1, found, size => if size < n then invGo b n w k (invStep b found (min (2 * size) n) w) (min (2 * size) n) else found
/-- the limbs found on the way are small, and the turns suffice -/
noncomputable def invOk (b : List Int) (n w : Int) : Nat → List Int → Int → Bool
  | 0, found, size => smB found && decide (found.length ≤ 100) && decide (n ≤ size)
  | k + 1, found, size => smB found && decide (found.length ≤ 100) && (if size < n then invOk b n w k (invStep b found (min (2 * size) n) w) (min (2 * size) n) else true)
noncomputable def invLowF (b : List Int) (n w : Int) : List Int := if n = 0 then [] else invGo b n w 8 [invLimbF (b.getD 0 0) w] 1

noncomputable def waysIn (part : Nat) (ks : List Nat) (ways : List Int) : List Int :=
  ks.foldl (fun ways k => ways.set k (ways.getD k 0 + ways.getD (k - part) 0)) ways
noncomputable def waysF (parts : List Nat) (n : Nat) (once : Bool) : List Int :=
  normalF (parts.foldl (fun ways p => waysIn p (if once then (List.range' p (n - p)).reverse else List.range' p (n - p)) ways) (1 :: List.replicate (n - 1) 0))

end Mine

namespace Mine

theorem normal_zeros : ∀ ns : List Int, (∀ j, j < ns.length → ns.getD j 0 = 0) → normalF ns = []
  | [], _ => rfl
  | x :: r, h => by
    have h0 : x = 0 := by simpa using h 0 (by simp)
    have hr : normalF r = [] := normal_zeros r fun j hj => by simpa using h (j + 1) (by simpa using hj)
    simp [normalF, hr, h0]
theorem normal_take : ∀ (ns : List Int) (k : Nat), k ≤ ns.length → (∀ j, k ≤ j → j < ns.length → ns.getD j 0 = 0) → (k = 0 ∨ ns.getD (k - 1) 0 ≠ 0) → ns.take k = normalF ns
  | [], k, _, _, _ => by simp [normalF]
  | x :: r, 0, _, h, _ => by
    rw [normal_zeros (x :: r) fun j hj => h j (Nat.zero_le _) hj]
    rfl
  | x :: r, k + 1, hk, h, hn => by
    have hk' : k ≤ r.length := by simpa using hk
    have ih := normal_take r k hk' (fun j h1 h2 => by simpa using h (j + 1) (by (first | lia | omega)) (by simpa using h2)) (by
      cases k with
      | zero => exact .inl rfl
      | succ k => refine .inr ?_; simpa using hn)
    show x :: r.take k = normalF (x :: r)
    cases k with
    | zero =>
      have hx : x ≠ 0 := by simpa using hn
      have e : normalF r = [] := by rw [← ih]; rfl
      simp [normalF, e, hx]
    | succ k =>
      cases r with
      | nil => simp at hk'
      | cons y t =>
        have e : normalF (y :: t) = y :: t.take k := by rw [← ih]; rfl
        rw [List.take_succ_cons]
        simp only [normalF] at e ⊢
        rw [e]
theorem normal_end {ns : List Int} {k : Int} (h0 : min (↑ns.length) 0 ≤ k) (h1 : k ≤ (ns.length : Int))
    (h : ∀ j : Int, k < j → j ≤ (ns.length : Int) → (if 0 < j then if (ns.getD (j - 1).toNat 0 == 0) = true then true else false else false) = true)
    (hn : (if 0 < k then if (ns.getD (k - 1).toNat 0 == 0) = true then true else false else false) = false) : ns.take k.toNat = normalF ns := by
  have hk0 : 0 ≤ k := by (first | lia | omega)
  refine normal_take ns k.toNat (by (first | lia | omega)) (fun j h2 h3 => ?_) ?_
  · have := h (j + 1) (by (first | lia | omega)) (by (first | lia | omega))
    have e : ((j : Int) + 1 - 1).toNat = j := by (first | lia | omega)
    rw [e] at this
    simpa using this
  · by_cases hk : k = 0
    · exact .inl (by (first | lia | omega))
    · refine .inr fun q => ?_
      have e : (k - 1).toNat = k.toNat - 1 := by (first | lia | omega)
      rw [e, q] at hn
      simp [show 0 < k by (first | lia | omega)] at hn
theorem len_normal (ns : List Int) : (normalF ns).length ≤ ns.length := by
  induction ns with
  | nil => simp [normalF]
  | cons x r ih =>
    simp only [normalF]
    split
    · split <;> simp
    · rename_i h; rw [h] at ih; simpa using ih
theorem mem_normal {x : Int} : ∀ {ns : List Int}, x ∈ normalF ns → x ∈ ns
  | [], h => h
  | y :: r, h => by
    simp only [normalF] at h
    split at h
    · split at h
      · cases h
      · rw [List.mem_singleton.mp h]; exact .head _
    · rename_i z t e
      rcases List.mem_cons.mp h with rfl | h
      · exact .head _
      · exact .tail _ (mem_normal (ns := r) (by rw [e]; exact h))

theorem lifted_end1 {ns : List Int} {k : Int} (h : (0 : Int) < (ns.length : Int)) : (List.replicate k.toNat [(0 : Int)]).flatten ++ ns = liftedF ns k := by
  have hn : ns ≠ [] := by rintro rfl; simp at h
  have e : ∀ j : Nat, (List.replicate j [(0 : Int)]).flatten = List.replicate j 0 := by
    intro j; induction j with
    | zero => rfl
    | succ j ih => simp [List.replicate_succ, ih]
  simp [liftedF, hn, e]
theorem lifted_end2 {ns : List Int} {k : Int} (h : ¬ (0 : Int) < (ns.length : Int)) : [] = liftedF ns k := by
  have hn : ns = [] := by
    cases ns with
    | nil => rfl
    | cons x r => exact absurd (by simp only [List.length_cons]; (first | lia | omega)) h
  simp [liftedF, hn]
theorem compare_turn {na nb pre : List Int} {k : Int} (hk : k = (na.length : Int) - 1 - (pre.length : Int)) (hl : pre.length < ((na.length : Int) - 1 - (-1)).toNat)
    (hp : ∀ j : Nat, na.length - pre.length ≤ j → j < na.length → na.getD j 0 = nb.getD j 0) (e : na.getD k.toNat 0 = nb.getD k.toNat 0) :
    ∀ j : Nat, na.length - (pre ++ [k]).length ≤ j → j < na.length → na.getD j 0 = nb.getD j 0 := by
  intro j h1 h2
  simp only [List.length_append, List.length_cons, List.length_nil] at h1
  by_cases hj : na.length - pre.length ≤ j
  · exact hp j hj h2
  · have : k.toNat = j := by (first | lia | omega)
    rw [← this]; exact e

theorem cmpGo_self : ∀ x : List Int, cmpGo x x = 0
  | [] => rfl
  | x :: r => by simp [cmpGo, cmpGo_self r]
theorem cmpGo_at : ∀ (x y : List Int) (p : Nat), p < x.length → p < y.length → (∀ i, i < p → x.getD i 0 = y.getD i 0) → x.getD p 0 ≠ y.getD p 0 → cmpGo x y = if x.getD p 0 < y.getD p 0 then -1 else 1
  | [], _, _, h, _, _, _ => absurd h (Nat.not_lt_zero _)
  | _ :: _, [], _, _, h, _, _ => absurd h (Nat.not_lt_zero _)
  | a :: r, b :: t, 0, _, _, _, hn => by
    have hn' : a ≠ b := by simpa using hn
    simp [cmpGo, hn']
  | a :: r, b :: t, p + 1, h1, h2, h, hn => by
    have h0 : a = b := by simpa using h 0 (Nat.zero_lt_succ _)
    have ih := cmpGo_at r t p (by simpa using h1) (by simpa using h2) (fun i hi => by simpa using h (i + 1) (by (first | lia | omega))) (by simpa using hn)
    simpa [cmpGo, h0] using ih
theorem getD_reverse (x : List Int) (i : Nat) (h : i < x.length) : x.reverse.getD i 0 = x.getD (x.length - 1 - i) 0 := by
  rw [List.getD_eq_getElem?_getD, List.getD_eq_getElem?_getD, List.getElem?_reverse h]
theorem compare_at {na nb pre : List Int} {k : Int} (hl : (na.length : Int) = (nb.length : Int)) (hk : k = (na.length : Int) - 1 - (pre.length : Int)) (hlt : pre.length < ((na.length : Int) - 1 - (-1)).toNat)
    (hp : ∀ j : Nat, na.length - pre.length ≤ j → j < na.length → na.getD j 0 = nb.getD j 0) (hn : na.getD k.toNat 0 ≠ nb.getD k.toNat 0) :
    compareF na nb = if na.getD k.toNat 0 < nb.getD k.toNat 0 then -1 else 1 := by
  have hl' : na.length = nb.length := by (first | lia | omega)
  have hlt' : pre.length < na.length := by (first | lia | omega)
  have e : k.toNat = na.length - 1 - pre.length := by (first | lia | omega)
  have e1 := getD_reverse na pre.length hlt'
  have e2 := getD_reverse nb pre.length (by (first | lia | omega))
  rw [← hl'] at e2
  have key := cmpGo_at na.reverse nb.reverse pre.length (by simpa using hlt') (by simp; (first | lia | omega)) (fun i hi => by
    rw [getD_reverse na i (by (first | lia | omega)), getD_reverse nb i (by (first | lia | omega)), ← hl']
    exact hp _ (by (first | lia | omega)) (by (first | lia | omega))) (by rw [e1, e2, ← e]; exact hn)
  rw [e1, e2, ← e] at key
  unfold compareF
  rw [if_neg (by (first | lia | omega)), key]
theorem compare_lt {na nb pre : List Int} {k : Int} (hl : (na.length : Int) = (nb.length : Int)) (hk : k = (na.length : Int) - 1 - (pre.length : Int)) (hlt : pre.length < ((na.length : Int) - 1 - (-1)).toNat)
    (hp : ∀ j : Nat, na.length - pre.length ≤ j → j < na.length → na.getD j 0 = nb.getD j 0) (hn : na.getD k.toNat 0 ≠ nb.getD k.toNat 0) (h : na.getD k.toNat 0 < nb.getD k.toNat 0) : -1 = compareF na nb := by
  rw [compare_at hl hk hlt hp hn, if_pos h]
theorem compare_gt {na nb pre : List Int} {k : Int} (hl : (na.length : Int) = (nb.length : Int)) (hk : k = (na.length : Int) - 1 - (pre.length : Int)) (hlt : pre.length < ((na.length : Int) - 1 - (-1)).toNat)
    (hp : ∀ j : Nat, na.length - pre.length ≤ j → j < na.length → na.getD j 0 = nb.getD j 0) (hn : na.getD k.toNat 0 ≠ nb.getD k.toNat 0) (h : ¬ na.getD k.toNat 0 < nb.getD k.toNat 0) : 1 = compareF na nb := by
  rw [compare_at hl hk hlt hp hn, if_neg h]
theorem compare_short {na nb : List Int} (h : (na.length : Int) < (nb.length : Int)) : -1 = compareF na nb := by
  unfold compareF
  rw [if_pos (by (first | lia | omega)), if_pos (by (first | lia | omega))]
theorem compare_long {na nb : List Int} (h : (na.length : Int) ≠ (nb.length : Int)) (h2 : ¬ (na.length : Int) < (nb.length : Int)) : 1 = compareF na nb := by
  unfold compareF
  rw [if_pos (by (first | lia | omega)), if_neg (by (first | lia | omega))]
theorem compare_same {na nb pre : List Int} (hl : (na.length : Int) = (nb.length : Int)) (he : pre.length = ((na.length : Int) - 1 - (-1)).toNat)
    (hp : ∀ j : Nat, na.length - pre.length ≤ j → j < na.length → na.getD j 0 = nb.getD j 0) : 0 = compareF na nb := by
  have hl' : na.length = nb.length := by (first | lia | omega)
  have e : na = nb := by
    refine List.ext_getElem hl' fun i h1 h2 => ?_
    have := hp i (by (first | lia | omega)) h1
    simpa [List.getD_eq_getElem?_getD, List.getElem?_eq_getElem h1, List.getElem?_eq_getElem h2] using this
  unfold compareF
  rw [if_neg (by (first | lia | omega)), e, cmpGo_self]

theorem add_start {f : Nat → Int} {B : Int} : ([] : List Int).length ≤ 1000 ∧ ([] : List Int).length = ([] : List Int).length + ([] : List Int).length ∧ [] = (addSt f B ([] : List Int).length).1 ∧ 0 = (addSt f B ([] : List Int).length).2 := ⟨by decide, rfl, rfl, rfl⟩
theorem add_start2 {f : Nat → Int} {B c : Int} {found : List Int} (h0 : found.length ≤ 1000) (h2 : found = (addSt f B found.length).1) (h3 : c = (addSt f B found.length).2) :
    found.length ≤ 1000 ∧ found.length = found.length + ([] : List Int).length ∧ found = (addSt f B found.length).1 ∧ c = (addSt f B found.length).2 := ⟨h0, rfl, h2, h3⟩
theorem mask_mod (x w : Int) : Builtin.bitAnd x (1 * 2 ^ w.toNat - 1) = x % 2 ^ w.toNat := by rw [Int.one_mul, kbt_mask]
theorem shift_div (x w : Int) : x.fdiv (2 ^ w.toNat) = x / 2 ^ w.toNat := Int.fdiv_eq_ediv_of_nonneg _ (Int.le_of_lt (kbt_pos _))
theorem add_turn {f : Nat → Int} {w c t k : Int} {found f0 pre : List Int} (h0 : f0.length ≤ 1000) (h1 : found.length = f0.length + pre.length) (h2 : found = (addSt f (2 ^ w.toNat) found.length).1) (h3 : c = (addSt f (2 ^ w.toNat) found.length).2) (ht : t = f found.length) :
    f0.length ≤ 1000 ∧ (found ++ [Builtin.bitAnd (c + t) (1 * 2 ^ w.toNat - 1)]).length = f0.length + (pre ++ [k]).length ∧
      found ++ [Builtin.bitAnd (c + t) (1 * 2 ^ w.toNat - 1)] = (addSt f (2 ^ w.toNat) (found ++ [Builtin.bitAnd (c + t) (1 * 2 ^ w.toNat - 1)]).length).1 ∧
      (c + t).fdiv (2 ^ w.toNat) = (addSt f (2 ^ w.toNat) (found ++ [Builtin.bitAnd (c + t) (1 * 2 ^ w.toNat - 1)]).length).2 := by
  refine ⟨h0, by simp only [List.length_append, List.length_cons, List.length_nil]; (first | lia | omega), ?_, ?_⟩
  · rw [List.length_append, List.length_cons, List.length_nil, Nat.zero_add]
    show _ = (addSt f (2 ^ w.toNat) (found.length + 1)).1
    simp only [addSt]
    rw [mask_mod, ← h2, ← h3, ht]
  · rw [List.length_append, List.length_cons, List.length_nil, Nat.zero_add]
    show _ = (addSt f (2 ^ w.toNat) (found.length + 1)).2
    simp only [addSt]
    rw [shift_div, ← h3, ht]
theorem add_t1 {na nb : List Int} {k : Int} {j : Nat} (e : k.toNat = j) : na.getD k.toNat 0 + nb.getD k.toNat 0 = (fun k => na.getD k 0 + nb.getD k 0) j := by rw [e]
theorem add_t1' {na nb : List Int} {k : Int} {j : Nat} (e : k.toNat = j) : nb.getD k.toNat 0 + na.getD k.toNat 0 = (fun k => na.getD k 0 + nb.getD k 0) j := by rw [e, Int.add_comm]
theorem getD_past {x : List Int} {j : Nat} (h : x.length ≤ j) : x.getD j 0 = 0 := by
  rw [List.getD_eq_getElem?_getD, List.getElem?_eq_none h]; rfl
theorem add_t2 {na nb : List Int} {k : Int} {j : Nat} (e : k.toNat = j) (h : nb.length ≤ j) : na.getD k.toNat 0 = (fun k => na.getD k 0 + nb.getD k 0) j := by rw [e]; show _ = _ + nb.getD j 0; rw [getD_past h, Int.add_zero]
theorem add_t2' {na nb : List Int} {k : Int} {j : Nat} (e : k.toNat = j) (h : na.length ≤ j) : nb.getD k.toNat 0 = (fun k => na.getD k 0 + nb.getD k 0) j := by rw [e]; show _ = na.getD j 0 + _; rw [getD_past h, Int.zero_add]
theorem add_end1 {na nb found : List Int} {w c : Int} (h2 : found = (addSt (fun k => na.getD k 0 + nb.getD k 0) (2 ^ w.toNat) found.length).1) (h3 : c = (addSt (fun k => na.getD k 0 + nb.getD k 0) (2 ^ w.toNat) found.length).2)
    (h : found.length = max na.length nb.length) (hc : 0 < c) : found ++ [c] = addF na nb w := by
  rw [h] at h2 h3
  simp only [addF]
  rw [← h3, if_pos hc, ← h2]
theorem add_end2 {na nb found : List Int} {w c : Int} (h2 : found = (addSt (fun k => na.getD k 0 + nb.getD k 0) (2 ^ w.toNat) found.length).1) (h3 : c = (addSt (fun k => na.getD k 0 + nb.getD k 0) (2 ^ w.toNat) found.length).2)
    (h : found.length = max na.length nb.length) (hc : ¬ 0 < c) : found = addF na nb w := by
  rw [h] at h2 h3
  simp only [addF]
  rw [← h3, if_neg hc, ← h2]

theorem ints_concat {vs : List Value} {ns : List Int} {c : Int} {t : Tok} (h : IntsAre vs ns) : IntsAre (vs.toArray.toList.concat (.int c t)) (ns ++ [c]) := by
  rw [List.concat_eq_append]
  exact h.append (.cons c t .nil)
end Mine
namespace Mine
theorem len_normal_i {vs : List Value} {ns : List Int} (_ : IntsAre vs (normalF ns)) : (normalF ns).length ≤ ns.length := len_normal ns
theorem len_addSt (f : Nat → Int) (B : Int) : ∀ k, (addSt f B k).1.length = k
  | 0 => rfl
  | k + 1 => by simp [addSt, len_addSt f B k]
theorem len_add (a b : List Int) (w : Int) : (addF a b w).length ≤ max a.length b.length + 1 := by
  have h := len_addSt (fun k => a.getD k 0 + b.getD k 0) (2 ^ w.toNat) (max a.length b.length)
  simp only [addF]
  split
  · rw [List.length_append, h]; simp
  · (first | lia | omega)
theorem len_add_i {vs : List Value} {a b : List Int} {w : Int} (_ : IntsAre vs (addF a b w)) : (addF a b w).length ≤ max a.length b.length + 1 := len_add a b w
theorem len_low_limbs (a : List Int) (n : Int) : (lowLimbsF a n).length ≤ a.length ∧ (lowLimbsF a n).length ≤ n.toNat := by
  have h := len_normal (a.take n.toNat)
  rw [List.length_take] at h
  exact ⟨Nat.le_trans h (Nat.min_le_right _ _), Nat.le_trans h (Nat.min_le_left _ _)⟩
theorem len_low_limbs_i {vs : List Value} {a : List Int} {n : Int} (_ : IntsAre vs (lowLimbsF a n)) : (lowLimbsF a n).length ≤ a.length ∧ (lowLimbsF a n).length ≤ n.toNat := len_low_limbs a n
end Mine
namespace Mine
theorem low_facts {n w : Int} (hw : 0 < w) (hn : 0 ≤ n) : 0 ≤ n.fdiv w ∧ 0 ≤ n.fmod w ∧ n.fmod w < w := by
  rw [Int.fdiv_eq_ediv_of_nonneg _ (Int.le_of_lt hw), Int.fmod_eq_emod_of_nonneg _ (Int.le_of_lt hw)]
  exact ⟨Int.ediv_nonneg hn (Int.le_of_lt hw), Int.emod_nonneg _ (by (first | lia | omega)), Int.emod_lt_of_pos _ hw⟩
theorem low_end1 {na : List Int} {n w : Int} (hw : 0 < w) (h : (na.length : Int) ≤ n.fdiv w) : na = lowF na n w := by
  rw [Int.fdiv_eq_ediv_of_nonneg _ (Int.le_of_lt hw)] at h
  unfold lowF
  rw [if_pos h]
theorem low_end2 {na : List Int} {n w : Int} (hw : 0 < w) (h : ¬ (na.length : Int) ≤ n.fdiv w) :
    normalF (na.take (n.fdiv w).toNat ++ [Builtin.bitAnd (na.getD (n.fdiv w).toNat 0) (1 * 2 ^ (n.fmod w).toNat - 1)]) = lowF na n w := by
  rw [Int.fdiv_eq_ediv_of_nonneg _ (Int.le_of_lt hw)] at h ⊢
  rw [Int.fmod_eq_emod_of_nonneg _ (Int.le_of_lt hw), mask_mod]
  unfold lowF
  rw [if_neg h]
theorem add_at_end1 {na nb : List Int} {spot w : Int} (h : (nb.length : Int) = 0) : na = addAtF na nb spot w := by
  have e : nb = [] := List.eq_nil_of_length_eq_zero (by (first | lia | omega))
  unfold addAtF
  rw [if_pos e]
theorem flat_zeros (j : Nat) : (List.replicate j [(0 : Int)]).flatten = List.replicate j 0 := by
  induction j with
  | zero => rfl
  | succ j ih => simp [List.replicate_succ, ih]
theorem add_at_end2 {na nb : List Int} {spot w : Int} (h : (nb.length : Int) ≠ 0) (h2 : (na.length : Int) ≤ spot) :
    na ++ (List.replicate (spot - (na.length : Int)).toNat [(0 : Int)]).flatten ++ nb = addAtF na nb spot w := by
  have e : nb ≠ [] := by rintro rfl; exact h rfl
  unfold addAtF
  rw [if_neg e, if_pos h2, flat_zeros]
theorem add_at_end3 {na nb : List Int} {spot w : Int} (h : (nb.length : Int) ≠ 0) (h2 : ¬ (na.length : Int) ≤ spot) :
    na.take spot.toNat ++ addF (na.drop spot.toNat) nb w = addAtF na nb spot w := by
  have e : nb ≠ [] := by rintro rfl; exact h rfl
  unfold addAtF
  rw [if_neg e, if_neg h2]
end Mine
namespace Mine
theorem sub_turn1 {na nb found pre : List Int} {w c k b' : Int} (h1 : found.length = pre.length) (h2 : found = (subSt (fun k => na.getD k 0) (fun k => nb.getD k 0) (2 ^ w.toNat) pre.length).1) (h3 : c = (subSt (fun k => na.getD k 0) (fun k => nb.getD k 0) (2 ^ w.toNat) pre.length).2)
    (hk : k = 0 + (pre.length : Int)) (hb : b' = nb.getD k.toNat 0) (h : na.getD k.toNat 0 - c - b' < 0) :
    (found ++ [na.getD k.toNat 0 - c - b' + 1 * 2 ^ w.toNat]).length = (pre ++ [k]).length ∧ found ++ [na.getD k.toNat 0 - c - b' + 1 * 2 ^ w.toNat] = (subSt (fun k => na.getD k 0) (fun k => nb.getD k 0) (2 ^ w.toNat) (pre ++ [k]).length).1 ∧
      1 = (subSt (fun k => na.getD k 0) (fun k => nb.getD k 0) (2 ^ w.toNat) (pre ++ [k]).length).2 := by
  have e : k.toNat = pre.length := by (first | lia | omega)
  subst hb
  rw [e] at h ⊢
  have e2 : (pre ++ [k]).length = pre.length + 1 := by simp
  rw [e2, Int.one_mul]
  refine ⟨by simp [h1], ?_, ?_⟩
  · simp only [subSt]
    rw [← h3, if_pos h, ← h2]
  · simp only [subSt]
    rw [← h3, if_pos h]
theorem sub_turn2 {na nb found pre : List Int} {w c k b' : Int} (h1 : found.length = pre.length) (h2 : found = (subSt (fun k => na.getD k 0) (fun k => nb.getD k 0) (2 ^ w.toNat) pre.length).1) (h3 : c = (subSt (fun k => na.getD k 0) (fun k => nb.getD k 0) (2 ^ w.toNat) pre.length).2)
    (hk : k = 0 + (pre.length : Int)) (hb : b' = nb.getD k.toNat 0) (h : ¬ na.getD k.toNat 0 - c - b' < 0) :
    (found ++ [na.getD k.toNat 0 - c - b']).length = (pre ++ [k]).length ∧ found ++ [na.getD k.toNat 0 - c - b'] = (subSt (fun k => na.getD k 0) (fun k => nb.getD k 0) (2 ^ w.toNat) (pre ++ [k]).length).1 ∧
      0 = (subSt (fun k => na.getD k 0) (fun k => nb.getD k 0) (2 ^ w.toNat) (pre ++ [k]).length).2 := by
  have e : k.toNat = pre.length := by (first | lia | omega)
  subst hb
  rw [e] at h ⊢
  have e2 : (pre ++ [k]).length = pre.length + 1 := by simp
  rw [e2]
  refine ⟨by simp [h1], ?_, ?_⟩
  · simp only [subSt]
    rw [← h3, if_neg h, ← h2]
  · simp only [subSt]
    rw [← h3, if_neg h]
theorem past_zero {nb : List Int} {k : Int} (h : ¬ k < (nb.length : Int)) : 0 = nb.getD k.toNat 0 := (getD_past (by (first | lia | omega))).symm
theorem sub_end {na nb found : List Int} {w : Int} {n : Nat} (h2 : found = (subSt (fun k => na.getD k 0) (fun k => nb.getD k 0) (2 ^ w.toNat) n).1) (hn : n = na.length) : normalF found = subF na nb w := by
  rw [h2, hn]; rfl

theorem row_len (found : List Int) (at_ : Nat) (ai : Int) (b : List Int) (B : Int) : ∀ k, (rowSt found at_ ai b B k).1.length = found.length
  | 0 => rfl
  | k + 1 => by simp [rowSt, row_len found at_ ai b B k]
theorem row_start {found : List Int} {at_ : Nat} {ai B : Int} {b : List Int} : found.length = found.length ∧ found = (rowSt found at_ ai b B ([] : List Int).length).1 ∧ 0 = (rowSt found at_ ai b B ([] : List Int).length).2 := ⟨rfl, rfl, rfl⟩
theorem row_turn {found f0 pre b : List Int} {a_ w c k i : Int} {at_ : Nat} {ai : Int} (h1 : found.length = f0.length) (h2 : found = (rowSt f0 at_ ai b (2 ^ w.toNat) pre.length).1) (h3 : c = (rowSt f0 at_ ai b (2 ^ w.toNat) pre.length).2)
    (hi : i = a_ + k) (ha : a_.toNat = at_) (ha0 : 0 ≤ a_) (hk : k = (pre.length : Int)) :
    (found.set i.toNat (Builtin.bitAnd (c + (found.getD i.toNat 0 + ai * b.getD k.toNat 0)) (1 * 2 ^ w.toNat - 1))).length = f0.length ∧
      found.set i.toNat (Builtin.bitAnd (c + (found.getD i.toNat 0 + ai * b.getD k.toNat 0)) (1 * 2 ^ w.toNat - 1)) = (rowSt f0 at_ ai b (2 ^ w.toNat) (pre ++ [k]).length).1 ∧
      (c + (found.getD i.toNat 0 + ai * b.getD k.toNat 0)).fdiv (2 ^ w.toNat) = (rowSt f0 at_ ai b (2 ^ w.toNat) (pre ++ [k]).length).2 := by
  have e : i.toNat = at_ + pre.length := by (first | lia | omega)
  have ek : k.toNat = pre.length := by (first | lia | omega)
  have e2 : (pre ++ [k]).length = pre.length + 1 := by simp
  rw [e, ek, e2, mask_mod, shift_div]
  refine ⟨by rw [List.length_set]; exact h1, ?_, ?_⟩
  · simp only [rowSt]
    rw [← h3, ← h2]
  · simp only [rowSt]
    rw [← h3, ← h2]
noncomputable def SmP (ns : List Int) : Prop := ∀ x ∈ ns, 0 ≤ x ∧ x < 2 ^ 63
theorem sm_of {ns : List Int} (h : smB ns = true) : SmP ns := by
  intro x hx
  have := List.all_eq_true.mp h x hx
  simpa using this
theorem SmP.normal {ns : List Int} (h : SmP ns) : SmP (normalF ns) := fun x hx => h x (mem_normal hx)
theorem SmP.take {ns : List Int} (h : SmP ns) (k : Nat) : SmP (ns.take k) := fun x hx => h x (List.mem_of_mem_take hx)
theorem SmP.drop {ns : List Int} (h : SmP ns) (k : Nat) : SmP (ns.drop k) := fun x hx => h x (List.mem_of_mem_drop hx)
theorem SmP.low {ns : List Int} (h : SmP ns) (n : Int) : SmP (lowLimbsF ns n) := (h.take _).normal
theorem SmP.getD {ns : List Int} (h : SmP ns) (k : Nat) : 0 ≤ ns.getD k 0 ∧ ns.getD k 0 < 2 ^ 63 := by
  by_cases hk : k < ns.length
  · have e : ns.getD k 0 = ns[k] := by rw [List.getD_eq_getElem?_getD, List.getElem?_eq_getElem hk]; rfl
    rw [e]
    exact h _ (List.getElem_mem hk)
  · rw [getD_past (by (first | lia | omega))]; decide
end Mine
namespace Mine
theorem mul_okL {ns : List Int} (h : SmP ns) (k : Nat) (b : Int) : IntMulOk (ns.getD k 0) b := by
  have := h.getD k
  exact IntMulOk.of_left (intBits_le_64 (by (first | lia | omega)) (by (first | lia | omega)))
theorem ls_len (a b : List Int) (n : Nat) (B : Int) : ∀ k, (lowSchoolSt a b n B k).length = n
  | 0 => by simp [lowSchoolSt]
  | k + 1 => by
    have h := row_len (lowSchoolSt a b n B k) k (a.getD k 0) b B (min b.length (n - k))
    simp only [lowSchoolSt]
    split <;> simp_all [ls_len a b n B k]
theorem len_low_school (a b : List Int) (n w : Int) : (lowSchoolF a b n w).length ≤ n.toNat := by
  have h := len_normal (lowSchoolSt a b n.toNat (2 ^ w.toNat) (min a.length n.toNat))
  rw [ls_len] at h
  exact h
theorem len_low_school_i {vs : List Value} {a b : List Int} {n w : Int} (_ : IntsAre vs (lowSchoolF a b n w)) : (lowSchoolF a b n w).length ≤ n.toNat := len_low_school a b n w
theorem mul_len (a b : List Int) (B : Int) : ∀ k, (mulSt a b B k).length = a.length + b.length
  | 0 => by simp [mulSt]
  | k + 1 => by
    have h := row_len (mulSt a b B k) k (a.getD k 0) b B b.length
    simp only [mulSt, List.length_set, h, mul_len a b B k]
theorem len_mul (a b : List Int) (w : Int) : (mulF a b w).length ≤ a.length + b.length := by
  have h := len_normal (mulSt a b (2 ^ w.toNat) a.length)
  rw [mul_len] at h
  exact h
theorem len_mul_i {vs : List Value} {a b : List Int} {w : Int} (_ : IntsAre vs (mulF a b w)) : (mulF a b w).length ≤ a.length + b.length := len_mul a b w
end Mine
namespace Mine
theorem ls_start {na nb : List Int} {n : Int} {B : Int} : (List.replicate n.toNat [(0 : Int)]).flatten.length = n.toNat ∧ (List.replicate n.toNat [(0 : Int)]).flatten = lowSchoolSt na nb n.toNat B ([] : List Int).length := by
  rw [flat_zeros]
  exact ⟨List.length_replicate, rfl⟩
theorem ls_rng {e n k : Int} {B p : Nat} (hk : k = 0 + (p : Int)) (he : e = if n - k < (B : Int) then n - k else (B : Int)) : (rangeKs 0 (e - 0).toNat).length = min B (n.toNat - p) := by
  rw [rangeKs_length, he, hk]
  split <;> lia
theorem ls_at {k : Int} {p : Nat} (hk : k = 0 + (p : Int)) : k.toNat = p := by rw [hk, Int.zero_add]; rfl
theorem ls_turn1 {na nb found f0 pre : List Int} {k n w c e : Int} (h1 : found.length = f0.length) (h2 : found = (rowSt f0 k.toNat (na.getD k.toNat 0) nb (2 ^ w.toNat) (rangeKs 0 (e - 0).toNat).length).1)
    (h3 : c = (rowSt f0 k.toNat (na.getD k.toNat 0) nb (2 ^ w.toNat) (rangeKs 0 (e - 0).toNat).length).2) (h4 : f0.length = n.toNat) (h5 : f0 = lowSchoolSt na nb n.toNat (2 ^ w.toNat) pre.length) (hk : k = 0 + (pre.length : Int))
    (he : e = if n - k < (nb.length : Int) then n - k else (nb.length : Int)) (hc : k + e < n) :
    (found.set (k + e).toNat c).length = n.toNat ∧ found.set (k + e).toNat c = lowSchoolSt na nb n.toNat (2 ^ w.toNat) (pre ++ [k]).length := by
  have e1 : e = (nb.length : Int) := by split at he <;> (first | lia | omega)
  have e2 : k.toNat = pre.length := ls_at hk
  have e3 := ls_rng hk he
  have e4 : (k + e).toNat = pre.length + min nb.length (n.toNat - pre.length) := by (first | lia | omega)
  have e5 : (pre ++ [k]).length = pre.length + 1 := by simp
  refine ⟨by rw [List.length_set]; (first | lia | omega), ?_⟩
  rw [e3, e2, h5] at h2 h3
  rw [e5, e4]
  simp only [lowSchoolSt]
  rw [if_pos (by (first | lia | omega)), ← h2, ← h3]
theorem ls_turn2 {na nb found f0 pre : List Int} {k n w e m : Int} (h1 : found.length = f0.length) (h2 : found = (rowSt f0 k.toNat (na.getD k.toNat 0) nb (2 ^ w.toNat) (rangeKs 0 (e - 0).toNat).length).1)
    (h4 : f0.length = n.toNat) (h5 : f0 = lowSchoolSt na nb n.toNat (2 ^ w.toNat) pre.length) (hk : k = 0 + (pre.length : Int))
    (he : e = if n - k < (nb.length : Int) then n - k else (nb.length : Int)) (hm : m = if n < (na.length : Int) then n else (na.length : Int)) (hlt : pre.length < (m - 0).toNat) (hc : ¬ k + e < n) :
    found.length = n.toNat ∧ found = lowSchoolSt na nb n.toNat (2 ^ w.toNat) (pre ++ [k]).length := by
  have hkn : k < n := by split at hm <;> (first | lia | omega)
  have e1 : e = n - k := by split at he <;> (first | lia | omega)
  have e1' : n - k ≤ (nb.length : Int) := by split at he <;> (first | lia | omega)
  have e2 : k.toNat = pre.length := ls_at hk
  have e3 := ls_rng hk he
  have e5 : (pre ++ [k]).length = pre.length + 1 := by simp
  refine ⟨by (first | lia | omega), ?_⟩
  rw [e3, e2, h5] at h2
  rw [e5]
  simp only [lowSchoolSt]
  rw [if_neg (by (first | lia | omega)), ← h2]
theorem ls_end {na nb found : List Int} {n w m : Int} (h5 : found = lowSchoolSt na nb n.toNat (2 ^ w.toNat) (rangeKs 0 (m - 0).toNat).length) (hm : m = if n < (na.length : Int) then n else (na.length : Int)) : normalF found = lowSchoolF na nb n w := by
  have e : (rangeKs 0 (m - 0).toNat).length = min na.length n.toNat := by rw [rangeKs_length]; split at hm <;> (first | lia | omega)
  rw [h5, e]; rfl
end Mine
namespace Mine
theorem pre_lt {as pre post : List Int} {a : Int} (e : as = pre ++ a :: post) : pre.length < as.length := by rw [e]; simp
theorem pre_get {as pre post : List Int} {a : Int} (e : as = pre ++ a :: post) : a = as.getD pre.length 0 := by
  rw [e, List.getD_eq_getElem?_getD, List.getElem?_append_right (Nat.le_refl _)]; simp
theorem mul_okM {ns : List Int} (h : SmP ns) {a : Int} (k : Nat) (e : a = ns.getD k 0) (b : Int) : IntMulOk a b := by rw [e]; exact mul_okL h k b
theorem mul_start {na nb : List Int} {B : Int} : (List.replicate ((na.length : Int) + (nb.length : Int)).toNat [(0 : Int)]).flatten.length = na.length + nb.length ∧ (List.replicate ((na.length : Int) + (nb.length : Int)).toNat [(0 : Int)]).flatten = mulSt na nb B ([] : List Int).length := by
  have e : ((na.length : Int) + (nb.length : Int)).toNat = na.length + nb.length := by (first | lia | omega)
  rw [flat_zeros, e]
  exact ⟨List.length_replicate, rfl⟩
theorem mrow_turn {found f0 pre b : List Int} {w c y : Int} {at_ : Nat} {ai : Int} (h1 : found.length = f0.length) (h2 : found = (rowSt f0 at_ ai b (2 ^ w.toNat) pre.length).1) (h3 : c = (rowSt f0 at_ ai b (2 ^ w.toNat) pre.length).2) (hy : y = b.getD pre.length 0) :
    (found.set ((at_ : Int) + (pre.length : Int)).toNat (Builtin.bitAnd (c + (found.getD ((at_ : Int) + (pre.length : Int)).toNat 0 + ai * y)) (1 * 2 ^ w.toNat - 1))).length = f0.length ∧
      found.set ((at_ : Int) + (pre.length : Int)).toNat (Builtin.bitAnd (c + (found.getD ((at_ : Int) + (pre.length : Int)).toNat 0 + ai * y)) (1 * 2 ^ w.toNat - 1)) = (rowSt f0 at_ ai b (2 ^ w.toNat) (pre ++ [y]).length).1 ∧
      (c + (found.getD ((at_ : Int) + (pre.length : Int)).toNat 0 + ai * y)).fdiv (2 ^ w.toNat) = (rowSt f0 at_ ai b (2 ^ w.toNat) (pre ++ [y]).length).2 := by
  have e : ((at_ : Int) + (pre.length : Int)).toNat = at_ + pre.length := by (first | lia | omega)
  have e2 : (pre ++ [y]).length = pre.length + 1 := by simp
  rw [e, e2, mask_mod, shift_div]
  refine ⟨by rw [List.length_set]; exact h1, ?_, ?_⟩
  · simp only [rowSt]
    rw [← h3, ← h2, hy]
  · simp only [rowSt]
    rw [← h3, ← h2, hy]
theorem mul_turn {na nb found f0 pre : List Int} {w c a : Int} (h1 : found.length = f0.length) (h2 : found = (rowSt f0 pre.length a nb (2 ^ w.toNat) nb.length).1) (h3 : c = (rowSt f0 pre.length a nb (2 ^ w.toNat) nb.length).2)
    (h4 : f0.length = na.length + nb.length) (h5 : f0 = mulSt na nb (2 ^ w.toNat) pre.length) (ha : a = na.getD pre.length 0) :
    (found.set ((pre.length : Int) + (nb.length : Int)).toNat c).length = na.length + nb.length ∧ found.set ((pre.length : Int) + (nb.length : Int)).toNat c = mulSt na nb (2 ^ w.toNat) (pre ++ [a]).length := by
  have e : ((pre.length : Int) + (nb.length : Int)).toNat = pre.length + nb.length := by (first | lia | omega)
  have e2 : (pre ++ [a]).length = pre.length + 1 := by simp
  rw [e, e2]
  refine ⟨by rw [List.length_set]; (first | lia | omega), ?_⟩
  rw [ha, h5] at h2 h3
  simp only [mulSt]
  rw [← h2, ← h3]
theorem mul_end {na nb found : List Int} {w : Int} (h : found = mulSt na nb (2 ^ w.toNat) na.length) : normalF found = mulF na nb w := by rw [h]; rfl
end Mine
namespace Mine
theorem len_base (a b : List Int) (n w : Int) : (baseF a b n w).length ≤ n.toNat := len_low_school _ _ n w
theorem len_base_i {vs : List Value} {a b : List Int} {n w : Int} (_ : IntsAre vs (baseF a b n w)) : (baseF a b n w).length ≤ n.toNat := len_base a b n w
theorem cut_bounds {n : Int} (h1 : 4 ≤ n) (h2 : n ≤ 12) : 0 ≤ cutF n ∧ cutF n ≤ n ∧ 0 ≤ n - cutF n ∧ n - cutF n < 4 := by
  unfold cutF
  split <;> (first | lia | omega)
theorem len_add_at (a b : List Int) (spot w : Int) : (addAtF a b spot w).length ≤ a.length + spot.toNat + b.length + 1 := by
  unfold addAtF
  split
  · (first | lia | omega)
  · split
    · simp only [List.length_append, List.length_replicate]; (first | lia | omega)
    · have h := len_add (a.drop spot.toNat) b w
      simp only [List.length_append, List.length_take, List.length_drop] at h ⊢
      (first | lia | omega)
theorem len_add_at_i {vs : List Value} {a b : List Int} {spot w : Int} (_ : IntsAre vs (addAtF a b spot w)) : (addAtF a b spot w).length ≤ a.length + spot.toNat + b.length + 1 := len_add_at a b spot w
end Mine
namespace Mine
noncomputable def LimbQ (d w found sure : Int) : Prop := ∃ k : Nat, invLimbGo d w k found sure = invLimbF d w ∧ w ≤ sure * 2 ^ k
theorem limb_range {w x : Int} (_ : 0 < w) (h2 : w ≤ 64) : 0 ≤ x % 2 ^ w.toNat ∧ x % 2 ^ w.toNat < 2 ^ 64 := by
  have hp := kbt_pos w.toNat
  have h64 : (2 : Int) ^ w.toNat ≤ 2 ^ 64 := by
    have := Nat.pow_le_pow_right (show 0 < 2 by decide) (show w.toNat ≤ 64 by (first | lia | omega))
    have e := kbt_cast w.toNat
    have e2 := kbt_cast 64
    (first | lia | omega)
  exact ⟨Int.emod_nonneg _ (by (first | lia | omega)), Int.lt_of_lt_of_le (Int.emod_lt_of_pos _ hp) h64⟩
theorem limb_mod (x w : Int) : x.fmod (1 * 2 ^ w.toNat) = x % 2 ^ w.toNat := by
  rw [Int.one_mul, Int.fmod_eq_emod_of_nonneg _ (Int.le_of_lt (kbt_pos _))]
theorem limb_start {d w : Int} (h1 : 0 < w) (h2 : w ≤ 64) : 0 ≤ d.fmod (1 * 2 ^ w.toNat) ∧ d.fmod (1 * 2 ^ w.toNat) < 2 ^ 64 ∧ (3 : Int) ≤ 3 ∧ LimbQ d w (d.fmod (1 * 2 ^ w.toNat)) 3 := by
  rw [limb_mod]
  have h := limb_range (x := d) h1 h2
  refine ⟨h.1, h.2, by decide, 64, rfl, ?_⟩
  have : (64 : Int) ≤ 3 * 2 ^ 64 := by decide
  (first | lia | omega)
theorem limb_turn {d w f s : Int} (h1 : 0 < w) (h2 : w ≤ 64) (h3 : 3 ≤ s) (h : LimbQ d w f s) (hs : s < w) :
    0 ≤ (f * (2 - d * f).fmod (1 * 2 ^ w.toNat)).fmod (1 * 2 ^ w.toNat) ∧ (f * (2 - d * f).fmod (1 * 2 ^ w.toNat)).fmod (1 * 2 ^ w.toNat) < 2 ^ 64 ∧ 3 ≤ 2 * s ∧ LimbQ d w ((f * (2 - d * f).fmod (1 * 2 ^ w.toNat)).fmod (1 * 2 ^ w.toNat)) (2 * s) := by
  rw [limb_mod, limb_mod]
  have hr := limb_range (x := f * ((2 - d * f) % 2 ^ w.toNat)) h1 h2
  refine ⟨hr.1, hr.2, by (first | lia | omega), ?_⟩
  obtain ⟨k, hk, hw⟩ := h
  cases k with
  | zero => exfalso; rw [Int.pow_zero] at hw; (first | lia | omega)
  | succ k =>
    refine ⟨k, ?_, ?_⟩
    · rw [← hk]
      simp only [invLimbGo]
      rw [if_pos hs]
    · rw [Int.pow_succ] at hw
      have e : 2 * s * 2 ^ k = s * (2 ^ k * 2) := by rw [Int.mul_comm (2 ^ k) 2, ← Int.mul_assoc, Int.mul_comm s 2]
      rw [e]; exact hw
theorem limb_end {d w f s : Int} (h : LimbQ d w f s) (hs : ¬ s < w) : f = invLimbF d w := by
  obtain ⟨k, hk, _⟩ := h
  rw [← hk]
  cases k with
  | zero => rfl
  | succ k => simp only [invLimbGo]; rw [if_neg hs]
end Mine
namespace Mine
theorem compl_map {na : List Int} {n w : Int} (_ : 0 ≤ n) : (rangeKs 0 (n - 0).toNat).map (fun k' => if k' < (na.length : Int) then 1 * 2 ^ w.toNat - 1 - na.getD k'.toNat 0 else 1 * 2 ^ w.toNat - 1 - 0) = (List.range n.toNat).map fun k => (2 ^ w.toNat - 1) - na.getD k 0 := by
  have e0 : (n - 0).toNat = n.toNat := by (first | lia | omega)
  unfold rangeKs
  rw [List.map_map, e0]
  refine List.map_congr_left fun k _ => ?_
  have e : ((0 : Int) + (k : Int)).toNat = k := by (first | lia | omega)
  simp only [Function.comp, Int.one_mul, e]
  split
  · rfl
  · rw [getD_past (x := na) (j := k) (by (first | lia | omega))]
theorem len_complement (a : List Int) (n w : Int) : (complementF a n w).length ≤ n.toNat := (len_low_limbs _ n).2
theorem len_complement_i {vs : List Value} {a : List Int} {n w : Int} (_ : IntsAre vs (complementF a n w)) : (complementF a n w).length ≤ n.toNat := len_complement a n w
end Mine
namespace Mine
noncomputable def InvQ (b : List Int) (n w : Int) (found : List Int) (size : Int) : Prop := ∃ k : Nat, invGo b n w k found size = invLowF b n w ∧ invOk b n w k found size = true
theorem invOk_sm {b : List Int} {n w : Int} {k : Nat} {found : List Int} {size : Int} (h : invOk b n w k found size = true) : SmP found ∧ found.length ≤ 100 := by
  cases k <;> (simp only [invOk, Bool.and_eq_true, decide_eq_true_eq] at h; exact ⟨sm_of h.1.1, h.1.2⟩)
theorem InvQ.sm {b : List Int} {n w : Int} {found : List Int} {size : Int} (h : InvQ b n w found size) : SmP found ∧ found.length ≤ 100 := by
  obtain ⟨k, _, h⟩ := h; exact invOk_sm h
theorem inv_start {b : List Int} {n w : Int} (hn : 1 ≤ n) (h : invOk b n w 8 [invLimbF (b.getD 0 0) w] 1 = true) : 1 ≤ (1 : Int) ∧ (1 : Int) ≤ n ∧ InvQ b n w [invLimbF (b.getD 0 0) w] 1 := by
  refine ⟨Int.le_refl 1, hn, 8, ?_, h⟩
  unfold invLowF
  rw [if_neg (by (first | lia | omega))]
theorem min_if (a n : Int) : (if n < a then n else a) = min a n := by
  split <;> (first | lia | omega)
theorem inv_turn {b : List Int} {n w : Int} {found : List Int} {size : Int} (h0 : 1 ≤ size) (h : InvQ b n w found size) (hs : size < n) :
    1 ≤ (if n < 2 * size then n else 2 * size) ∧ (if n < 2 * size then n else 2 * size) ≤ n ∧ InvQ b n w (invStep b found (if n < 2 * size then n else 2 * size) w) (if n < 2 * size then n else 2 * size) := by
  rw [min_if]
  refine ⟨by (first | lia | omega), by (first | lia | omega), ?_⟩
  obtain ⟨k, h1, h2⟩ := h
  cases k with
  | zero =>
    simp only [invOk, Bool.and_eq_true, decide_eq_true_eq] at h2
    (first | lia | omega)
  | succ k =>
    simp only [invOk, Bool.and_eq_true, if_pos hs] at h2
    refine ⟨k, ?_, h2.2⟩
    rw [← h1]
    simp only [invGo]
    rw [if_pos hs]
theorem inv_end {b : List Int} {n w : Int} {found : List Int} {size : Int} (h : InvQ b n w found size) (hs : ¬ size < n) : found = invLowF b n w := by
  obtain ⟨k, h1, _⟩ := h
  rw [← h1]
  cases k with
  | zero => rfl
  | succ k => simp only [invGo]; rw [if_neg hs]
theorem inv_size {n size : Int} (h0 : 1 ≤ size) (h1 : size ≤ n) : 1 ≤ (if n < 2 * size then n else 2 * size) ∧ (if n < 2 * size then n else 2 * size) ≤ n := by split <;> (first | lia | omega)
end Mine
namespace Mine
theorem inv_less {n size : Int} (h0 : 1 ≤ size) (hs : size < n) : (n - (if n < 2 * size then n else 2 * size)).toNat < (n - size).toNat := by split <;> (first | lia | omega)
end Mine
namespace Mine
noncomputable def wstep (n : Nat) (once : Bool) (ways : List Int) (p : Nat) : List Int := waysIn p (if once then (List.range' p (n - p)).reverse else List.range' p (n - p)) ways
noncomputable def wsFold (n : Nat) (once : Bool) (ps : List Int) : List Int := (ps.map Int.toNat).foldl (wstep n once) (1 :: List.replicate (n - 1) 0)
theorem waysF_fold (ps : List Int) (n : Nat) (once : Bool) : normalF (wsFold n once ps) = waysF (ps.map Int.toNat) n once := rfl
theorem ways_start {n : Int} {once : Bool} (hn : 1 ≤ n) : ([1] ++ (List.replicate (n - 1).toNat [(0 : Int)]).flatten).length = n.toNat ∧ [1] ++ (List.replicate (n - 1).toNat [(0 : Int)]).flatten = wsFold n.toNat once [] := by
  have e : (n - 1).toNat = n.toNat - 1 := by (first | lia | omega)
  rw [flat_zeros, e]
  refine ⟨by simp; (first | lia | omega), rfl⟩
theorem win_start {w0 : List Int} {p : Nat} : w0.length = w0.length ∧ w0 = waysIn p (([] : List Int).map Int.toNat) w0 := ⟨rfl, rfl⟩
theorem win_turn {ways w0 pre : List Int} {p k : Int} (h1 : ways.length = w0.length) (h2 : ways = waysIn p.toNat (pre.map Int.toNat) w0) (hp : 0 ≤ p) :
    (ways.set k.toNat (ways.getD k.toNat 0 + ways.getD (k - p).toNat 0)).length = w0.length ∧ ways.set k.toNat (ways.getD k.toNat 0 + ways.getD (k - p).toNat 0) = waysIn p.toNat ((pre ++ [k]).map Int.toNat) w0 := by
  have e : (k - p).toNat = k.toNat - p.toNat := by (first | lia | omega)
  refine ⟨by rw [List.length_set]; exact h1, ?_⟩
  rw [List.map_append, List.map_cons, List.map_nil, e]
  show _ = ((pre.map Int.toNat) ++ [k.toNat]).foldl _ w0
  rw [List.foldl_append]
  show _ = (waysIn p.toNat (pre.map Int.toNat) w0).set k.toNat ((waysIn p.toNat (pre.map Int.toNat) w0).getD k.toNat 0 + (waysIn p.toNat (pre.map Int.toNat) w0).getD (k.toNat - p.toNat) 0)
  rw [← h2]
theorem up_nats {p n : Int} (hp : 0 ≤ p) : (rangeKs p (n - p).toNat).map Int.toNat = List.range' p.toNat (n.toNat - p.toNat) := by
  unfold rangeKs
  rw [List.map_map, List.range'_eq_map_range]
  have e : (n - p).toNat = n.toNat - p.toNat := by (first | lia | omega)
  rw [e]
  refine List.map_congr_left fun k _ => ?_
  simp only [Function.comp]
  (first | lia | omega)
theorem down_nats {p n : Int} (hp : 0 ≤ p) : (downKs (n - 1) ((n - 1) - (p - 1)).toNat).map Int.toNat = (List.range' p.toNat (n.toNat - p.toNat)).reverse := by
  have e : ((n - 1) - (p - 1)).toNat = n.toNat - p.toNat := by (first | lia | omega)
  rw [e]
  refine List.ext_getElem (by simp [downKs]) fun i h1 h2 => ?_
  simp only [downKs, List.map_map, List.length_map, List.length_range, List.getElem_map, List.getElem_range, Function.comp, List.getElem_reverse, List.getElem_range', List.length_range'] at h1 h2 ⊢
  (first | lia | omega)
theorem ways_up {ways w0 pre : List Int} {p n : Int} (h1 : ways.length = w0.length) (h2 : ways = waysIn p.toNat ((rangeKs p (n - p).toNat).map Int.toNat) w0) (h3 : w0.length = n.toNat) (h4 : w0 = wsFold n.toNat false pre) (hp : 0 ≤ p) :
    ways.length = n.toNat ∧ ways = wsFold n.toNat false (pre ++ [p]) := by
  refine ⟨by (first | lia | omega), ?_⟩
  rw [up_nats hp] at h2
  unfold wsFold at h4 ⊢
  rw [List.map_append, List.foldl_append, ← h4, h2]
  rfl
theorem ways_down {ways w0 pre : List Int} {p n : Int} (h1 : ways.length = w0.length) (h2 : ways = waysIn p.toNat ((downKs (n - 1) ((n - 1) - (p - 1)).toNat).map Int.toNat) w0) (h3 : w0.length = n.toNat) (h4 : w0 = wsFold n.toNat true pre) (hp : 0 ≤ p) :
    ways.length = n.toNat ∧ ways = wsFold n.toNat true (pre ++ [p]) := by
  refine ⟨by (first | lia | omega), ?_⟩
  rw [down_nats hp] at h2
  unfold wsFold at h4 ⊢
  rw [List.map_append, List.foldl_append, ← h4, h2]
  rfl
end Mine
namespace Mine
theorem wh_start {n : Int} {once : Bool} {ps ways : List Int} (hn : 1 ≤ n) (hn2 : n ≤ 900) (h1 : ways.length = n.toNat) (h2 : ways = wsFold n.toNat once ps) :
    1 ≤ ways.length ∧ ways.length ≤ 900 ∧ normalF ways = waysF (ps.map Int.toNat) n.toNat once := ⟨by (first | lia | omega), by (first | lia | omega), by rw [h2, waysF_fold]⟩
end Mine
namespace Mine
theorem normal_snoc0 : ∀ xs : List Int, normalF (xs ++ [0]) = normalF xs
  | [] => rfl
  | x :: r => by
    show normalF (x :: (r ++ [0])) = normalF (x :: r)
    simp only [normalF, normal_snoc0 r]
theorem wh_turn {ways R : List Int} (h1 : 1 ≤ ways.length) (h2 : ways.length ≤ 900) (h3 : normalF ways = R) (hz : ways.getD (-1 + (ways.length : Int)).toNat 0 = 0) (hne : R ≠ []) :
    1 ≤ ways.dropLast.length ∧ ways.dropLast.length ≤ 900 ∧ normalF ways.dropLast = R := by
  have hw : ways ≠ [] := by rintro rfl; simp at h1
  have e : (-1 + (ways.length : Int)).toNat = ways.length - 1 := by (first | lia | omega)
  have hl : ways.getLast hw = 0 := by
    rw [e, List.getD_eq_getElem?_getD, List.getElem?_eq_getElem (by (first | lia | omega))] at hz
    rw [List.getLast_eq_getElem]; exact hz
  have hs : normalF ways.dropLast = R := by
    rw [← h3, ← normal_snoc0 ways.dropLast, ← hl, List.dropLast_concat_getLast hw]
  refine ⟨?_, by rw [List.length_dropLast]; (first | lia | omega), hs⟩
  cases hd : ways.dropLast with
  | nil => rw [hd] at hs; exact absurd hs.symm hne
  | cons x r => simp
theorem wh_less {ways : List Int} (h1 : 1 ≤ ways.length) : ways.dropLast.length < ways.length := by rw [List.length_dropLast]; (first | lia | omega)
theorem wh_end {ways R : List Int} (h1 : 1 ≤ ways.length) (h3 : normalF ways = R) (hz : ways.getD (-1 + (ways.length : Int)).toNat 0 ≠ 0) : ways = R := by
  have e : (-1 + (ways.length : Int)).toNat = ways.length - 1 := by (first | lia | omega)
  rw [e] at hz
  have := normal_take ways ways.length (Nat.le_refl _) (fun j h1 h2 => absurd h1 (by (first | lia | omega))) (.inr hz)
  rw [List.take_length] at this
  rw [← h3]; exact this
end Mine
namespace Mine
end Mine

namespace Mine
section
variable {prog : Program} {w : World} {A : Around} {E : Value → Shared → Prop} {s : Shared} {env : Env} {h₀ : Heap} {xi xc : Str} {body : List Stmt} {Q : Flow → Shared → Prop}
/-- a loop over enumerate of a list of ints, its state as in the library's own loops -/
theorem kst_pairs {σ : Type} {as : List Int} {xv : Value} {m₀ : Str → Option Value} (Led : σ → List (Addr × Obj)) (ps : σ → List (Str × Value)) (Facts : σ → Prop) (stored : List Str) (P : List Int → σ → Prop) (c₀ : σ)
    (S : PairSrc prog w A E h₀ env ItemKind.int as xv s m₀ (Led c₀)) (hf : Facts c₀) (hk : ∀ p ∈ ps c₀, m₀ p.1 = some p.2) (hp : P [] c₀)
    (turn : ∀ (c : σ) (pre post : List Int) (a : Int) t ta (u : Str → Option Value) h tk own, as = pre ++ a :: post → OwnOff own ((Led c₀).map (·.1)) → Facts c → P pre c →
      Fr h₀ env.locals h (fun y => if y = xc then some (.int a ta) else if y = xi then some (.int (pre.length : Int) t) else kstB (fun z => if stored.contains z then u z else m₀ z) (ps c) y) → News h₀ env.locals h (Led c ++ own) →
      wpAny (model prog w) A (execs body env) (InvPostN h₀ env.locals (KstS Led ps Facts xc stored m₀ P (pre ++ [a])) own ((Led c₀).map (·.1)) { s with heap := h, toks := tk } Q) E { s with heap := h, toks := tk })
    (done : ∀ (c : σ) (u : Str → Option Value) h tk, Facts c → P as c → Fr h₀ env.locals h (fun y => if y = xc then u y else kstB (fun z => if stored.contains z then u z else m₀ z) (ps c) y) → News h₀ env.locals h (Led c) → Q .next { s with heap := h, toks := tk }) :
    wpAny (model prog w) A (pyIter xv) (fun it s₂ => PairAt3 prog w A h₀ env xi xc body Q E it s₂) E s := by
  refine S xi xc body Q (fun i m nx => KstS Led ps Facts xc stored m₀ P (as.take i) m nx) ⟨c₀, rfl, hf, hk, fun _ _ _ _ => rfl, by simpa using hp⟩ ?_ ?_
  · rintro i a t v m₁ news₁ s₁ own ⟨h, tk, rfl⟩ ha ⟨ta, rfl⟩ ⟨c, rfl, hf', h1, h2, hp'⟩ hadr hoff F₁ N₁
    obtain ⟨hi, hai⟩ := List.getElem?_eq_some_iff.mp ha
    have hs : as.take (i + 1) = as.take i ++ [a] := by simp [List.take_add_one, ha]
    have e : as = as.take i ++ a :: as.drop (i + 1) := by
      have ht := List.take_append_drop (i + 1) as
      rw [hs, List.append_assoc] at ht
      exact ht.symm
    have hl : (as.take i).length = i := by rw [List.length_take]; (first | lia | omega)
    have em : (fun y => if y = xc then some (Value.int a ta) else if y = xi then some (.int i t) else m₁ y) = fun y => if y = xc then some (Value.int a ta) else if y = xi then some (.int ((as.take i).length : Int) t) else kstB (fun z => if stored.contains z then m₁ z else m₀ z) (ps c) y := by
      funext y
      by_cases hy : y = xc
      · rw [if_pos hy, if_pos hy]
      · rw [if_neg hy, if_neg hy, hl, kst_off h1 h2 hy]
    rw [em] at F₁
    have N₂ : News h₀ env.locals h (Led c ++ own) := fun p hp => N₁ p ((List.mem_append.mp hp).elim (fun x => List.mem_append.mpr (.inr x)) fun x => List.mem_append.mpr (.inl x))
    refine wpAny_mono (turn c _ _ a t ta m₁ h tk own e (fun p hp b hb q => ?_) hf' hp' F₁ N₂) (fun f s₂ p => ?_) fun _ _ x => x
    · obtain ⟨r, hr, rfl⟩ := List.mem_map.mp hb
      exact hoff p hp r hr q
    · have fin : InvEndN h₀ env.locals (KstS Led ps Facts xc stored m₀ P (as.take i ++ [a])) own ((Led c₀).map (·.1)) { s with heap := h, toks := tk } s₂ →
          LoopStep2 h₀ env.locals own (Led c) (fun m nx => KstS Led ps Facts xc stored m₀ P (as.take (i + 1)) m nx) { s with heap := h, toks := tk } .next s₂ := by
        rintro ⟨h', tk', m', news', nx, e', F', N', hn, ho, ha', hS⟩
        rw [← hs] at hS
        exact ⟨rfl, h', tk', m', nx, e', F', fun p hp => N' p ((List.mem_append.mp hp).elim (ho p) (hn p)), ha'.trans hadr.symm, hS⟩
      cases f with
      | ret v => exact p
      | brk => exact p
      | next => exact fin p
      | cont => exact fin p
  · rintro h' tk m' news' F' N' _ ⟨c, rfl, hf', h1, h2, hp'⟩
    rw [List.take_length] at hp'
    exact done c m' h' tk hf' hp' (kst_frOut h1 h2 F') N'

/-- one list of the ledger turns -/
theorem pairs_list {as : List Int} {xv : Value} {m₀ : Str → Option Value} {pre₀ post₀ : List (Addr × Obj)} {D : Addr} {vs₀ : List Value} {ns₀ : List Int} {c₀ : Nat} (stored : List Str) (P : List Int → List Int → Prop)
    (S : PairSrc prog w A E h₀ env ItemKind.int as xv s m₀ (pre₀ ++ (D, listOf vs₀.toArray c₀) :: post₀)) (hi : IntsAre vs₀ ns₀) (hp : P [] ns₀)
    (turn : ∀ (vs : List Value) (ns : List Int) (cn : Nat) (pre post : List Int) (a : Int) t ta (u : Str → Option Value) h tk own, as = pre ++ a :: post → OwnOff own ((pre₀ ++ (D, listOf vs₀.toArray c₀) :: post₀).map (·.1)) → IntsAre vs ns → P pre ns →
      Fr h₀ env.locals h (fun y => if y = xc then some (.int a ta) else if y = xi then some (.int (pre.length : Int) t) else kstB (fun z => if stored.contains z then u z else m₀ z) [] y) → News h₀ env.locals h (pre₀ ++ (D, listOf vs.toArray cn) :: (post₀ ++ own)) →
      wpAny (model prog w) A (execs body env) (InvPostN h₀ env.locals (KstS (fun c : List Value × List Int × Nat => pre₀ ++ (D, listOf c.1.toArray c.2.2) :: post₀) (fun _ => []) (fun c => IntsAre c.1 c.2.1) xc stored m₀ (fun p c => P p c.2.1) (pre ++ [a])) own ((pre₀ ++ (D, listOf vs₀.toArray c₀) :: post₀).map (·.1)) { s with heap := h, toks := tk } Q) E { s with heap := h, toks := tk })
    (done : ∀ (vs : List Value) (ns : List Int) (cn : Nat) (u : Str → Option Value) h tk, IntsAre vs ns → P as ns → Fr h₀ env.locals h (fun y => if y = xc then u y else kstB (fun z => if stored.contains z then u z else m₀ z) [] y) → News h₀ env.locals h (pre₀ ++ (D, listOf vs.toArray cn) :: post₀) → Q .next { s with heap := h, toks := tk }) :
    wpAny (model prog w) A (pyIter xv) (fun it s₂ => PairAt3 prog w A h₀ env xi xc body Q E it s₂) E s :=
  kst_pairs (σ := List Value × List Int × Nat) (fun c => pre₀ ++ (D, listOf c.1.toArray c.2.2) :: post₀) (fun _ => []) (fun c => IntsAre c.1 c.2.1) stored (fun p c => P p c.2.1) (vs₀, ns₀, c₀) S hi (List.forall_mem_nil _) hp
    (fun c pre post a t ta u h tk own e off hf hp' F N => turn c.1 c.2.1 c.2.2 pre post a t ta u h tk own e off hf hp' F (by simpa only [List.append_assoc, List.cons_append] using N))
    fun c u h tk hf hp' F N => done c.1 c.2.1 c.2.2 u h tk hf hp' F N
/-- one list of the ledger and one int of the frame turn -/
theorem pairs_list1 {as : List Int} {xv : Value} {m₀ : Str → Option Value} {pre₀ post₀ : List (Addr × Obj)} {D : Addr} {vs₀ : List Value} {ns₀ : List Int} {c₀ : Nat} {x₀ : Int} {t₀ : Tok} (y : Str) (stored : List Str) (P : List Int → Int → List Int → Prop)
    (S : PairSrc prog w A E h₀ env ItemKind.int as xv s m₀ (pre₀ ++ (D, listOf vs₀.toArray c₀) :: post₀)) (hi : IntsAre vs₀ ns₀) (hy : m₀ y = some (.int x₀ t₀)) (hp : P [] x₀ ns₀)
    (turn : ∀ (x : Int) (tx : Tok) (vs : List Value) (ns : List Int) (cn : Nat) (pre post : List Int) (a : Int) t ta (u : Str → Option Value) h tk own, as = pre ++ a :: post → OwnOff own ((pre₀ ++ (D, listOf vs₀.toArray c₀) :: post₀).map (·.1)) → IntsAre vs ns → P pre x ns →
      Fr h₀ env.locals h (fun z => if z = xc then some (.int a ta) else if z = xi then some (.int (pre.length : Int) t) else kstB (fun z => if stored.contains z then u z else m₀ z) [(y, .int x tx)] z) → News h₀ env.locals h (pre₀ ++ (D, listOf vs.toArray cn) :: (post₀ ++ own)) →
      wpAny (model prog w) A (execs body env) (InvPostN h₀ env.locals (KstS (fun c : Int × Tok × List Value × List Int × Nat => pre₀ ++ (D, listOf c.2.2.1.toArray c.2.2.2.2) :: post₀) (fun c => [(y, .int c.1 c.2.1)]) (fun c => IntsAre c.2.2.1 c.2.2.2.1) xc stored m₀ (fun p c => P p c.1 c.2.2.2.1) (pre ++ [a])) own ((pre₀ ++ (D, listOf vs₀.toArray c₀) :: post₀).map (·.1)) { s with heap := h, toks := tk } Q) E { s with heap := h, toks := tk })
    (done : ∀ (x : Int) (tx : Tok) (vs : List Value) (ns : List Int) (cn : Nat) (u : Str → Option Value) h tk, IntsAre vs ns → P as x ns → Fr h₀ env.locals h (fun z => if z = xc then u z else kstB (fun z => if stored.contains z then u z else m₀ z) [(y, .int x tx)] z) → News h₀ env.locals h (pre₀ ++ (D, listOf vs.toArray cn) :: post₀) → Q .next { s with heap := h, toks := tk }) :
    wpAny (model prog w) A (pyIter xv) (fun it s₂ => PairAt3 prog w A h₀ env xi xc body Q E it s₂) E s :=
  kst_pairs (σ := Int × Tok × List Value × List Int × Nat) (fun c => pre₀ ++ (D, listOf c.2.2.1.toArray c.2.2.2.2) :: post₀) (fun c => [(y, .int c.1 c.2.1)]) (fun c => IntsAre c.2.2.1 c.2.2.2.1) stored (fun p c => P p c.1 c.2.2.2.1) (x₀, t₀, vs₀, ns₀, c₀) S hi (List.forall_mem_cons.mpr ⟨hy, List.forall_mem_nil _⟩) hp
    (fun c pre post a t ta u h tk own e off hf hp' F N => turn c.1 c.2.1 c.2.2.1 c.2.2.2.1 c.2.2.2.2 pre post a t ta u h tk own e off hf hp' F (by simpa only [List.append_assoc, List.cons_append] using N))
    fun c u h tk hf hp' F N => done c.1 c.2.1 c.2.2.1 c.2.2.2.1 c.2.2.2.2 u h tk hf hp' F N
end
end Mine
namespace Mine
section
variable {prog : Program} {w : World} {A : Around} {E : Value → Shared → Prop} {s : Shared} {env : Env} {h₀ : Heap} {L : Addr} {Q : Flow → Shared → Prop}
/-- a while whose turn binds one name to a new list and another to a new int -/
theorem while_rebind {test : PySem.Expr} {body : List Stmt} {pos : Pos} {m₀ : Str → Option Value} {news : List (Addr × Obj)} {D₀ : Addr} {vs₀ : List Value} {ns₀ : List Int} {c₀ : Nat} {x₀ : Int} {t₀ : Tok} (y z : Str) (stored : List Str) (P : List Int → Int → Prop) (μ : Int → Nat)
    (F : Fr h₀ L s.heap m₀) (N : News h₀ L s.heap news) (hm : (D₀, listOf vs₀.toArray c₀) ∈ news) (hi : IntsAre vs₀ ns₀) (hy : m₀ y = some (.ref D₀)) (hz : m₀ z = some (.int x₀ t₀)) (hp : P ns₀ x₀)
    (turn : ∀ (D : Addr) (vs : List Value) (ns : List Int) (cn : Nat) (x : Int) (t : Tok) (u : Str → Option Value) h tk, IntsAre vs ns → P ns x → Fr h₀ L h (kstB (fun q => if stored.contains q then u q else m₀ q) [(y, .ref D), (z, .int x t)]) → News h₀ L h [(D, listOf vs.toArray cn)] →
      wpAny (model prog w) A (isTrue test env (eval test env)) (fun b s₂ =>
        if b = true then wpAny (model prog w) A (execs body env) (KswPost h₀ L s (fun c : Addr × List Value × List Int × Nat × Int × Tok => [(c.1, listOf c.2.1.toArray c.2.2.2.1)]) (fun c => [(y, .ref c.1), (z, .int c.2.2.2.2.1 c.2.2.2.2.2)]) (fun c => IntsAre c.2.1 c.2.2.1) stored m₀ (fun c => P c.2.2.1 c.2.2.2.2.1) (fun c => μ c.2.2.2.2.1) Q (D, vs, ns, cn, x, t)) E s₂ else Q .next s₂) E { s with heap := h, toks := tk })
    (hE : PassesOwn (model prog w) A env E := by passes_own) :
    wpAny (model prog w) A (exec (.While test body [] pos) env) Q E s :=
  ksw_while (σ := Addr × List Value × List Int × Nat × Int × Tok) (fun c => [(c.1, listOf c.2.1.toArray c.2.2.2.1)]) (fun c => [(y, .ref c.1), (z, .int c.2.2.2.2.1 c.2.2.2.2.2)]) (fun c => IntsAre c.2.1 c.2.2.1) stored (fun c => P c.2.2.1 c.2.2.2.2.1) (fun c => μ c.2.2.2.2.1) (D₀, vs₀, ns₀, c₀, x₀, t₀)
    F (fun p hp => N p (by rw [List.mem_singleton.mp hp]; exact hm)) hi (List.forall_mem_cons.mpr ⟨hy, List.forall_mem_cons.mpr ⟨hz, List.forall_mem_nil _⟩⟩) hp
    (fun c u h tk hf hp' F N => turn c.1 c.2.1 c.2.2.1 c.2.2.2.1 c.2.2.2.2.1 c.2.2.2.2.2 u h tk hf hp' F N) hE
end
end Mine
namespace Mine
section
variable {prog : Program} {w : World} {A : Around} {E : Value → Shared → Prop} {s : Shared} {h₀ : Heap} {L : Addr} {m : Str → Option Value} {news : List (Addr × Obj)}
/-- a range object that a name is to keep stands in the ledger -/
abbrev rangeObj (a b c : Int) (t u v : Tok) : Obj := { cls := .type "range", data := .fields #[.int a t, .int b u, .int c v] }
theorem range2_led {Q : Value → Shared → Prop} {a b : Int} {t u : Tok} (F : Fr h₀ L s.heap m) (N : News h₀ L s.heap news)
    (h : ∀ r h' tk t₁ u₁ v₁, Fr h₀ L h' m → News h₀ L h' ((r, rangeObj a b 1 t₁ u₁ v₁) :: news) → (∀ p ∈ news, p.1 < r) → Q (.ref r) { s with heap := h', toks := tk }) :
    wpAny (model prog w) A (call (.type "range") [.int a t, .int b u]) Q E s :=
  call_range_2 (h _ _ _ _ _ _ (F.push _) (N.push F _) fun p hp => Heap.lt_size (N p hp).1)
theorem range3_led {Q : Value → Shared → Prop} {a b c : Int} {t u v : Tok} (F : Fr h₀ L s.heap m) (N : News h₀ L s.heap news) (hc : c ≠ 0)
    (h : ∀ r h' tk t₁ u₁ v₁, Fr h₀ L h' m → News h₀ L h' ((r, rangeObj a b c t₁ u₁ v₁) :: news) → (∀ p ∈ news, p.1 < r) → Q (.ref r) { s with heap := h', toks := tk })
    (hp : Builtin.divisionGoesByPylong (b - a) c = false ∨ PySem.PylongRoom (model prog w) A s) :
    wpAny (model prog w) A (call (.type "range") [.int a t, .int b u, .int c v]) Q E s :=
  call_range_3 hc (h _ _ _ _ _ _ (F.push _) (N.push F _) fun p hp => Heap.lt_size (N p hp).1) hp
theorem range_at {h : Heap} {r : Addr} {a b c : Int} {t u v : Tok} (N : News h₀ L h news) (hm : (r, rangeObj a b c t u v) ∈ news) : IsRange h r a b c t u v := (N _ hm).1
end
end Mine
namespace Mine
section
variable {prog : Program} {w : World} {A : Around} {E : Value → Shared → Prop} {s : Shared} {env : Env} {h₀ : Heap} {x : Str} {body : List Stmt} {Q : Flow → Shared → Prop}
/-- how a turn ends that binds y to a list made in the turn -/
noncomputable def RebEnd (h₀ : Heap) (L : Addr) (x y : Str) (stored : List Str) (m₀ : Str → Option Value) (fix own : List (Addr × Obj)) (P : List Int → Prop) (s₁ s₂ : Shared) : Prop :=
  ∃ (h' : Heap) (tk : Nat) (m' : Str → Option Value) (news' : List (Addr × Obj)) (D : Addr) (vs : List Value) (ns : List Int) (c : Nat), s₂ = { s₁ with heap := h', toks := tk } ∧ Fr h₀ L h' m' ∧ News h₀ L h' news' ∧ (D, listOf vs.toArray c) ∈ news' ∧
    (∀ p ∈ fix, p ∈ news') ∧ (∀ p ∈ own, p ∈ news') ∧ (∀ p ∈ own, p.1 ≠ D) ∧ IntsAre vs ns ∧ m' y = some (.ref D) ∧ (∀ z, z ≠ x → z ≠ y → stored.contains z = false → m' z = m₀ z) ∧ P ns
noncomputable def RebPost (h₀ : Heap) (L : Addr) (x y : Str) (stored : List Str) (m₀ : Str → Option Value) (fix own : List (Addr × Obj)) (P : List Int → Prop) (s₁ : Shared) (Q : Flow → Shared → Prop) (f : Flow) (s₂ : Shared) : Prop :=
  match f with
  | .ret v => Q (.ret v) s₂
  | .brk => Q .next s₂
  | _ => RebEnd h₀ L x y stored m₀ fix own P s₁ s₂
/-- a loop over a range whose turn binds one name to a new list; the entries of fix stand -/
theorem reb_range {r : Addr} {a₀ b₀ : Int} {t₀ u₀ v₀ : Tok} {n : Nat} {m₀ : Str → Option Value} {news : List (Addr × Obj)} {D₀ : Addr} {vs₀ : List Value} {ns₀ : List Int} {c₀ : Nat} (y : Str) (stored : List Str) (fix : List (Addr × Obj)) (P : Nat → List Int → Prop)
    (hh : A.handled = none) (hr : IsRange s.heap r a₀ b₀ 1 t₀ u₀ v₀) (hsmall : Builtin.Range.small a₀ b₀ 1 = true) (hn : Builtin.Range.rangeSize a₀ b₀ 1 = (n : Int)) (F : Fr h₀ env.locals s.heap m₀) (N : News h₀ env.locals s.heap news)
    (hm : (D₀, listOf vs₀.toArray c₀) ∈ news) (hfix : ∀ p ∈ fix, p ∈ news) (hi : IntsAre vs₀ ns₀) (hy : m₀ y = some (.ref D₀)) (hp : P 0 ns₀)
    (turn : ∀ (i : Nat) (k : Int) t (D : Addr) vs ns c (u : Str → Option Value) h tk own, k = a₀ + (i : Int) → i < n → IntsAre vs ns → P i ns →
      Fr h₀ env.locals h (fun z => if z = x then some (.int k t) else if z = y then some (.ref D) else if stored.contains z then u z else m₀ z) → News h₀ env.locals h ((D, listOf vs.toArray c) :: (fix ++ own)) →
      wpAny (model prog w) A (execs body env) (RebPost h₀ env.locals x y stored m₀ fix own (P (i + 1)) { s with heap := h, toks := tk } Q) E { s with heap := h, toks := tk })
    (done : ∀ (D : Addr) vs ns c (u : Str → Option Value) h tk, IntsAre vs ns → P n ns → Fr h₀ env.locals h (fun z => if z = x then u z else if z = y then some (.ref D) else if stored.contains z then u z else m₀ z) → News h₀ env.locals h ((D, listOf vs.toArray c) :: fix) → Q .next { s with heap := h, toks := tk }) :
    wpAny (model prog w) A (pyIter (.ref r)) (fun it s₂ => LoopAtV prog w A h₀ env x body Q E it s₂) E s := by
  refine wpAny_pyIter_range hr hsmall ?_
  have W : Walks prog w A s.heap.objs.size [s.heap.objs.size] [s.heap.objs.size] n (fun i v => i < n ∧ ∃ t, v = .int (a₀ + i * 1) t)
      (fun i h => IsRangeIter h s.heap.objs.size (a₀ + (i : Nat) * 1) ((n : Int) - (i : Nat)) 1) := (Walks.range hh _ a₀ 1 n).bound
  have lt : ∀ p ∈ news, p.1 < s.heap.objs.size := fun p hp => Heap.lt_size (N p hp).1
  have news0 : News h₀ env.locals (s.heap.push { cls := .type "range_iterator", data := .fields #[rawInt a₀, rawInt (Builtin.Range.rangeSize a₀ b₀ 1), rawInt 1] }) ((D₀, listOf vs₀.toArray c₀) :: fix) := fun p hp => by
    rcases List.mem_cons.mp hp with rfl | hp
    · exact ⟨Heap.get?_push_of_some _ (N _ hm).1, (N _ hm).2⟩
    · exact ⟨Heap.get?_push_of_some _ (N _ (hfix p hp)).1, (N _ (hfix p hp)).2⟩
  have me : (fun z => if z = y then some (Value.ref D₀) else m₀ z) = m₀ := by
    funext z
    by_cases hz : z = y
    · rw [if_pos hz, hz, hy]
    · rw [if_neg hz]
  refine ⟨_, _, _, n, _, _, m₀, (D₀, listOf vs₀.toArray c₀) :: fix,
    (fun i m nx => ∃ D vs ns c, nx = (D, listOf vs.toArray c) :: fix ∧ IntsAre vs ns ∧ m y = some (.ref D) ∧ (∀ z, z ≠ x → z ≠ y → stored.contains z = false → m z = m₀ z) ∧ P i ns), rfl, W, ?_, ?_, ?_, ?_, F.push _, news0, ⟨D₀, vs₀, ns₀, c₀, rfl, hi, hy, fun _ _ _ _ => rfl, hp⟩, ?_, ?_⟩
  · intro hm'
    exact absurd F.ns.lt ((List.mem_singleton.mp hm') ▸ Nat.lt_irrefl _)
  · intro b hb
    rw [List.mem_singleton.mp hb]
    exact next_is_new F
  · intro p hp hI
    have hlt : p.1 < s.heap.objs.size := by
      rcases List.mem_cons.mp hp with rfl | hp
      · exact lt _ hm
      · exact lt _ (hfix p hp)
    exact absurd hlt ((List.mem_singleton.mp hI) ▸ Nat.lt_irrefl _)
  · show IsRangeIter _ _ _ _ _
    rw [hn]
    simpa using Heap.get?_push_size _ rfl
  · rintro i v m₁ news₁ s₁ own ⟨hh', tk', rfl⟩ hin ⟨_, t, rfl⟩ ⟨D, vs, ns, c, rfl, hvs, hmy, hmz, hP⟩ _ hown _ hin' hst F₁ N₁
    have e1 : a₀ + (i : Int) * 1 = a₀ + (i : Int) := by (first | lia | omega)
    rw [e1] at F₁
    have em : (fun z => if z = x then some (Value.int (a₀ + (i : Int)) t) else m₁ z) = fun z => if z = x then some (Value.int (a₀ + (i : Int)) t) else if z = y then some (Value.ref D) else if stored.contains z then m₁ z else m₀ z := by
      funext z
      by_cases hx : z = x
      · rw [if_pos hx, if_pos hx]
      · rw [if_neg hx, if_neg hx]
        by_cases hy' : z = y
        · rw [if_pos hy', hy', hmy]
        · rw [if_neg hy']
          cases hs : stored.contains z with
          | true => rfl
          | false => simp only [Bool.false_eq_true, if_false]; exact hmz z hx hy' hs
    rw [em] at F₁
    have N₂ : News h₀ env.locals hh' ((D, listOf vs.toArray c) :: (fix ++ own)) := fun p hp => by
      rcases List.mem_cons.mp hp with rfl | hp
      · exact N₁ _ (List.mem_append.mpr (.inr (.head _)))
      · rcases List.mem_append.mp hp with hp | hp
        · exact N₁ _ (List.mem_append.mpr (.inr (.tail _ hp)))
        · exact N₁ _ (List.mem_append.mpr (.inl hp))
    refine wpAny_mono (turn i (a₀ + (i : Int)) t D vs ns c m₁ hh' tk' own rfl hin hvs hP F₁ N₂) (fun f s₂ p => ?_) fun _ _ e => e
    have fin : RebEnd h₀ env.locals x y stored m₀ fix own (P (i + 1)) { s with heap := hh', toks := tk' } s₂ → LoopStepU h₀ env.locals [s.heap.objs.size] own (fun m nx => ∃ D vs ns c, nx = (D, listOf vs.toArray c) :: fix ∧ IntsAre vs ns ∧ m y = some (.ref D) ∧ (∀ z, z ≠ x → z ≠ y → stored.contains z = false → m z = m₀ z) ∧ P (i + 1) ns) { s with heap := hh', toks := tk' } .next s₂ := by
      rintro ⟨h', tk, m', news', D', vs', ns', c', e, F', N', hD, hf, ho, hoD, hv', hy', hz', hP'⟩
      refine ⟨rfl, h', tk, m', (D', listOf vs'.toArray c') :: fix, e, F', fun p hp => ?_, fun p hp hq => ?_, D', vs', ns', c', rfl, hv', hy', hz', hP'⟩
      · rcases List.mem_append.mp hp with hp | hp
        · exact N' p (ho p hp)
        · rcases List.mem_cons.mp hp with rfl | hp
          · exact N' _ hD
          · exact N' p (hf p hp)
      · have hI := List.mem_singleton.mp hq
        rcases List.mem_cons.mp hp with rfl | hp
        · have hmem := hin' s.heap.objs.size (List.mem_singleton.mpr rfl) (next_is_new F) _ hst
          exact hoD _ hmem hI.symm
        · exact absurd (lt _ (hfix p hp)) (hI ▸ Nat.lt_irrefl _)
    cases f with
    | ret v => exact .ret p
    | brk => exact .brk p
    | next => exact .next (fin p)
    | cont => exact .cont (fin p)
  · rintro h' tk m' news' F' N' _ ⟨D, vs, ns, c, rfl, hvs, hmy, hmz, hP⟩
    refine done D vs ns c m' h' tk hvs hP ?_ N'
    have em : (fun z => if z = x then m' z else if z = y then some (Value.ref D) else if stored.contains z then m' z else m₀ z) = m' := by
      funext z
      by_cases hx : z = x
      · rw [if_pos hx]
      · rw [if_neg hx]
        by_cases hy' : z = y
        · rw [if_pos hy', hy', hmy]
        · rw [if_neg hy']
          cases hs : stored.contains z with
          | true => rfl
          | false => simp only [Bool.false_eq_true, if_false]; exact (hmz z hx hy' hs).symm
    rw [em]; exact F'
end
end Mine
namespace Mine
section
variable {prog : Program} {w : World} {A : Around} {E : Value → Shared → Prop} {s : Shared} {h₀ : Heap} {L : Addr} {m : Str → Option Value} {env : Env}
/-- where an if stands that turns two names round -/
structure SwapTo (x y : Str) (la lb : Addr) (C : Prop) (h₀ : Heap) (L : Addr) (m : Str → Option Value) (s : Shared) (fl : Flow) (s' : Shared) : Prop where
  next : fl = .next
  at_ : ∃ (h : Heap) (tk : Nat) (m' : Str → Option Value) (l l' : Addr), s' = { s with heap := h, toks := tk } ∧ Fr h₀ L h m' ∧ ((C ∧ l = lb ∧ l' = la) ∨ (¬ C ∧ l = la ∧ l' = lb)) ∧ m' x = some (.ref l) ∧ m' y = some (.ref l') ∧ ∀ z, z ≠ x → z ≠ y → m' z = m z
theorem swap_join {test : Expr} {body : List Stmt} {pos : Pos} {Q : Flow → Shared → Prop} (la lb : Addr) (x y : Str) (C : Prop) (_ : Fr h₀ L s.heap m)
    (h : wpAny (model prog w) A (exec (.If test body [] pos) env) (fun fl s' => SwapTo x y la lb C h₀ L m s fl s') E s)
    (hk : ∀ (h : Heap) (tk : Nat) (l l' : Addr), ((C ∧ l = lb ∧ l' = la) ∨ (¬ C ∧ l = la ∧ l' = lb)) → Fr h₀ L h (fun z => if z = x then some (.ref l) else if z = y then some (.ref l') else m z) → News h₀ L h [] → Q .next { s with heap := h, toks := tk }) :
    wpAny (model prog w) A (exec (.If test body [] pos) env) Q E s := by
  refine wpAny_mono h (fun fl s' j => ?_) fun _ _ z => z
  obtain ⟨e, h', tk, m', l, l', rfl, F, hc, hx, hy, hz⟩ := j
  subst e
  have em : m' = fun z => if z = x then some (.ref l) else if z = y then some (.ref l') else m z := by
    funext z
    by_cases e1 : z = x
    · rw [if_pos e1, e1, hx]
    · rw [if_neg e1]
      by_cases e2 : z = y
      · rw [if_pos e2, e2, hy]
      · rw [if_neg e2, hz z e1 e2]
  exact hk h' tk l l' hc (em ▸ F) News.nil
theorem addF_comm (a b : List Int) (w : Int) : addF a b w = addF b a w := by
  unfold addF
  have e : (fun k => a.getD k 0 + b.getD k 0) = fun k => b.getD k 0 + a.getD k 0 := funext fun k => Int.add_comm ..
  rw [e, Nat.max_comm]
theorem swap_lists {H : Heap} {l l' : Addr} {va vb : List Value} {na nb : List Int} (w : Int) (c : (((na.length : Int) < nb.length) ∧ l = lb ∧ l' = la) ∨ (¬ ((na.length : Int) < nb.length) ∧ l = la ∧ l' = lb))
    (hla : H.IsList la va.toArray) (hia : IntsAre va na) (hfa : na.length ≤ 1000) (hlb : H.IsList lb vb.toArray) (hib : IntsAre vb nb) (hfb : nb.length ≤ 1000) :
    ∃ (vJ : List Value) (nJ : List Int) (vK : List Value) (nK : List Int), H.IsList l vJ.toArray ∧ IntsAre vJ nJ ∧ nJ.length ≤ 1000 ∧ H.IsList l' vK.toArray ∧ IntsAre vK nK ∧ nK.length ≤ 1000 ∧ ¬ (nJ.length : Int) < nK.length ∧ addF nJ nK w = addF na nb w := by
  rcases c with ⟨c, rfl, rfl⟩ | ⟨c, rfl, rfl⟩
  · exact ⟨vb, nb, va, na, hlb, hib, hfb, hla, hia, hfa, Int.not_lt.mpr (Int.le_of_lt c), addF_comm ..⟩
  · exact ⟨va, na, vb, nb, hla, hia, hfa, hlb, hib, hfb, c, rfl⟩
end
end Mine

namespace Mine
section
variable {prog : Program} {w : World} {A₀ A : Around} {s : Shared} {base h₀ : Heap} {outer : List Env} {L : Addr} {m : Str → Option Value} {env : Env} {K : Frag} {p : Program} {loose : List Str} {mean : ExcName → Option Value} {mg mb : Str → Option Value}
  {R : Result → Shared → Prop} {name qual : Str} {params : Arguments} {body : List Stmt} {scope : Scope} {dV kV doc pm cdv ct oc : Value} {an od : Option Addr} {osl : Array (Option Value)} {f : Addr} {args : Args} {binds : List (Str × Value)}
/-- the same for a def whose names are captured: it owns its cells at its start -/
theorem enter2C (B : Below A₀ base outer h₀) (F : Fr h₀ L s.heap m) (X₀ : K.In h₀) (T : Top p loose mean mg mb h₀) (hA : A.frames = some (env :: outer)) (hf : env.frame = some L) (hke : env.scope.kind = .function)
    (ho : K.lookup f = some ⟨oc, od, .func (fnOf name qual params body scope dV kV doc pm an cdv ct), osl⟩) (hcd : codeIn K cdv qual = true) (hroom : A.depth < recursionLimit)
    (hbind : BindsTo s (fnOf name qual params body scope dV kV doc pm an cdv ct) args binds) (hkind : (binds.all fun y => scope.names.lookup y.1 == some .local || scope.names.lookup y.1 == some .cell) = true)
    (hnd : ((cellsFrom 0 scope.names []).map (·.1)).Nodup)
    (h : ∀ (Q' : Flow → Shared → Prop) (E' : Value → Shared → Prop), (∀ v s', R (.ok (.ret v)) s' → Q' (.ret v) s') → ∀ L' h₁ tk cells, PassesOwn (model prog w) (A.deeper (envOfC qual scope L' f cdv)) (envOfC qual scope L' f cdv) E' → Fr s.heap L' h₁ (bindL (envOfC qual scope L' f cdv).kindOf binds fun _ => none) → News s.heap L' h₁ cells →
      CellsAre (bindC (envOfC qual scope L' f cdv).kindOf binds fun _ => none) (cellsFrom (L' + 1) scope.names []) cells → Below A base (env :: outer) s.heap → K.In s.heap → Top p loose mean mg mb s.heap →
      wpAny (model prog w) (A.deeper (envOfC qual scope L' f cdv)) (execs body (envOfC qual scope L' f cdv)) Q' E' { s with heap := h₁, toks := tk })
    (hco : scope.isCoroutine = false) (hgen : scope.isGenerator = false) (hk : scope.kind = .function) : codeAny (model prog w) A (.call (.ref f) args) R s := by
  have X := X₀.keeps F.keep
  refine codeAny_call_function hroom (X _ _ ho) rfl hco hgen rfl (codeRec_of X hcd) (hbind _ _ _ _ ?_)
  refine wpAny_newFunctionEnv_cells hk (kindsX hkind _) fun env' he s' x => ?_
  subst he
  refine ⟨(T.nolimit.keeps F.keep).keeps x.toInCall.keep, codeAny_func ?_⟩
  obtain ⟨h₁, tk, rfl, _⟩ := x.done
  obtain ⟨cells, NC, Y⟩ := Cl.news (h₀ := s.heap) (Nat.le_refl _) fun n c hm => ⟨x.cell n c (lookup_of_mem_nodup (cellsFrom_names scope.names 0 (s.heap.objs.size + 1) [] [] rfl ▸ hnd) hm), x.above n c hm⟩
  exact h _ _ (fun _ _ z => z) s.heap.objs.size h₁ tk cells (by passes_own) ⟨x.toInCall.ns, x.toInCall.keep, Nat.le_refl _⟩ NC Y ⟨hA, fun b o e => F.keep b o (B.stays b o e), (pushX B F hf hke).frames⟩ X (T.keeps F.keep)
end
end Mine

namespace Mine
/-- the second list of a turn upward: 1 and the base to k -/
abbrev oneAt (i : Nat) : List Int := [1] ++ (List.replicate (1 + (i : Int) - 1).toNat [(0 : Int)]).flatten ++ [1]
end Mine
namespace Mine
theorem oneAt_len {i : Nat} {m : Int} (h : i < (m - 1).toNat) (hm : m ≤ 20) : (oneAt i).length ≤ 1000 := by
  unfold oneAt
  rw [flat_zeros]
  simp only [List.length_append, List.length_replicate, List.length_cons, List.length_nil]
  (first | lia | omega)
end Mine
namespace Mine
/-- the odd factors, as the law's own list -/
abbrev oddL (n : Int) : List Int := List.map (fun a => a) (List.filter (fun a => a.fmod 2 == 1) (rangeInts 1 1 (n - 1).toNat))
noncomputable def dnOk (n w : Int) : List Int → List Int → Bool
  | [], ways => ways == [1]
  | o :: r, ways =>
    let turned := invLowF ways n w
    let raised := lowF (liftedF ways o) (n * w) w
    let later := subF ways raised w
    let top := subF ((List.replicate n.toNat 0) ++ [1]) (liftedF [1] o) w
    let due := addF top [1] w
    (ways == waysF ((o :: r).map Int.toNat) n.toNat false) && smB ways && decide (ways.length ≤ 100) && !ways.isEmpty && decide ((ways.getD 0 0).fmod 2 = 1) && invOk ways n w 8 [invLimbF (ways.getD 0 0) w] 1
    && smB turned && decide (turned.length ≤ 100) && (lowProductF turned ways n w == [1])
    && decide (0 ≤ o) && decide (o ≤ n) && decide (raised.length ≤ 100) && decide (0 ≤ compareF ways raised) && decide (later.length ≤ 100)
    && decide (0 ≤ compareF (List.replicate n.toNat 0 ++ [1]) (liftedF [1] o)) && decide (top.length ≤ 100) && decide (due.length ≤ 100)
    && (lowProductF turned later n w == lowF due (n * w) w) && (r.all fun p => decide (0 ≤ p) && decide (p ≤ n)) && dnOk n w r later
noncomputable def upOk (n w : Int) : Nat → Nat → List Int → Bool
  | 0, _, ways => dnOk n w (oddL n) ways && smB ways && decide (ways.length ≤ 100)
  | t + 1, i, ways =>
    let ways' := lowProductF ways ([1] ++ List.replicate i 0 ++ [1]) n w
    smB ways && decide (ways.length ≤ 100) && (ways' == waysF (List.range' 1 (i + 1)) n.toNat true) && !ways'.isEmpty && decide (ways'.length ≤ 100) && upOk n w t (i + 1) ways'
noncomputable def lawOk (w n : Int) : Bool := upOk n w (n - 1).toNat 0 [1]
noncomputable def UpP (n w : Int) (i : Nat) (ways : List Int) : Prop := upOk n w ((n - 1).toNat - i) i ways = true
theorem not_empty {xs : List Int} (h : (!xs.isEmpty) = true) : xs ≠ [] := by rintro rfl; cases h
theorem upP_step {n w : Int} {i : Nat} {ways : List Int} (h : UpP n w i ways) (hi : i < (n - 1).toNat) :
    SmP ways ∧ ways.length ≤ 100 ∧ lowProductF ways (oneAt i) n w = waysF ((rangeKs 1 (1 + (i : Int) + 1 - 1).toNat).map Int.toNat) n.toNat true ∧ waysF ((rangeKs 1 (1 + (i : Int) + 1 - 1).toNat).map Int.toNat) n.toNat true ≠ [] ∧
      (lowProductF ways (oneAt i) n w).length ≤ 100 ∧ UpP n w (i + 1) (lowProductF ways (oneAt i) n w) := by
  unfold UpP at h
  have e : (n - 1).toNat - i = ((n - 1).toNat - (i + 1)) + 1 := by (first | lia | omega)
  have e2 : oneAt i = [1] ++ List.replicate i 0 ++ [1] := by
    have e3 : (1 + (i : Int) - 1).toNat = i := by (first | lia | omega)
    unfold oneAt
    rw [flat_zeros, e3]
  have e4 : (rangeKs 1 (1 + (i : Int) + 1 - 1).toNat).map Int.toNat = List.range' 1 (i + 1) := by
    have := up_nats (p := 1) (n := 1 + (i : Int) + 1) (by decide)
    rw [this]
    congr 1
    (first | lia | omega)
  rw [e] at h
  simp only [upOk, Bool.and_eq_true, decide_eq_true_eq, beq_iff_eq] at h
  rw [e2, e4]
  exact ⟨sm_of h.1.1.1.1.1, h.1.1.1.1.2, h.1.1.1.2, by rw [← h.1.1.1.2]; exact not_empty h.1.1.2, h.1.2, h.2⟩
noncomputable def DnP (n w : Int) (i : Nat) (ways : List Int) : Prop := dnOk n w ((oddL n).drop i) ways = true
theorem upP_done {n w : Int} {ways : List Int} (h : UpP n w (n - 1).toNat ways) : DnP n w 0 ways := by
  unfold UpP at h
  rw [Nat.sub_self] at h
  simp only [upOk, Bool.and_eq_true] at h
  exact h.1.1
theorem parts_ok {n : Int} {i : Nat} (h : i < (n - 1).toNat) : ∀ p ∈ rangeKs 1 (1 + (i : Int) + 1 - 1).toNat, 0 ≤ p ∧ p ≤ n := by
  intro p hp
  have := mem_rangeKs hp
  (first | lia | omega)
end Mine
namespace Mine
theorem ne_own {D : Addr} {l own : List (Addr × Obj)} (h : NeAll D l) (hs : ∀ p ∈ own, p ∈ l) : ∀ p ∈ own, p.1 ≠ D := fun p hp => h p (hs p hp)
/-- what a turn downward asks and leaves; k is the place, o the factor -/
structure DnStep (n w : Int) (k : Int) (o : Int) (turned raised later top due ways : List Int) (next : Prop) : Prop where
  sm : SmP ways
  len : ways.length ≤ 100
  ne : (ways.length : Int) ≠ 0
  odd : (ways.getD 0 0).fmod 2 = 1
  ok : invOk ways n w 8 [invLimbF (ways.getD 0 0) w] 1 = true
  eq : ways = waysF (((oddL n).drop k.toNat).map Int.toNat) n.toNat false
  parts : ∀ p ∈ (oddL n).drop k.toNat, 0 ≤ p ∧ p ≤ n
  nonil : waysF (((oddL n).drop k.toNat).map Int.toNat) n.toNat false ≠ []
  smT : SmP turned
  lenT : turned.length ≤ 100
  one : lowProductF turned ways n w = [1]
  o0 : 0 ≤ o
  on : o ≤ n
  lenR : raised.length ≤ 100
  cmp : 0 ≤ compareF ways raised
  lenL : later.length ≤ 100
  cmpT : 0 ≤ compareF ((List.replicate n.toNat [(0 : Int)]).flatten ++ [1]) (liftedF [1] o)
  lenTop : top.length ≤ 100
  lenD : due.length ≤ 100
  due_eq : lowProductF turned later n w = lowF due (n * w) w
  next : next
theorem dnP_step {n w k : Int} {i : Nat} {ways : List Int} (h : DnP n w i ways) (hi : i < (oddL n).length) (hk : k = 0 + (i : Int)) :
    DnStep n w k ((oddL n).getD k.toNat 0) (invLowF ways n w) (lowF (liftedF ways ((oddL n).getD k.toNat 0)) (n * w) w) (subF ways (lowF (liftedF ways ((oddL n).getD k.toNat 0)) (n * w) w) w)
      (subF ((List.replicate n.toNat [(0 : Int)]).flatten ++ [1]) (liftedF [1] ((oddL n).getD k.toNat 0)) w) (addF (subF ((List.replicate n.toNat [(0 : Int)]).flatten ++ [1]) (liftedF [1] ((oddL n).getD k.toNat 0)) w) [1] w) ways
      (DnP n w (i + 1) (subF ways (lowF (liftedF ways ((oddL n).getD k.toNat 0)) (n * w) w) w)) := by
  have ek : k.toNat = i := by (first | lia | omega)
  unfold DnP at h ⊢
  rw [ek]
  have hd : (oddL n).drop i = (oddL n).getD i 0 :: (oddL n).drop (i + 1) := by
    rw [List.drop_eq_getElem_cons hi, List.getD_eq_getElem?_getD, List.getElem?_eq_getElem hi]; rfl
  generalize (oddL n).getD i 0 = o at hd ⊢
  generalize hr : (oddL n).drop (i + 1) = r at hd ⊢
  rw [hd] at h
  simp only [dnOk, Bool.and_eq_true, decide_eq_true_eq, beq_iff_eq] at h
  obtain ⟨⟨⟨⟨⟨⟨⟨⟨⟨⟨⟨⟨⟨⟨⟨⟨⟨⟨⟨h1, h2⟩, h3⟩, h4⟩, h5⟩, h6⟩, h7⟩, h8⟩, h9⟩, h10⟩, h11⟩, h12⟩, h13⟩, h14⟩, h15⟩, h16⟩, h17⟩, h18⟩, h19⟩, h20⟩ := h
  rw [flat_zeros]
  refine ⟨sm_of h2, h3, ?_, h5, h6, by rw [ek, hd]; exact h1, ?_, by rw [ek, hd, ← h1]; exact not_empty h4, sm_of h7, h8, h9, h10, h11, h12, h13, h14, by rw [flat_zeros]; exact h15, h16, h17, h18, h20⟩
  · have := not_empty h4
    intro e
    exact this (List.eq_nil_of_length_eq_zero (by (first | lia | omega)))
  · intro p hp
    rw [ek, hd] at hp
    rcases List.mem_cons.mp hp with rfl | hp
    · exact ⟨h10, h11⟩
    · have := List.all_eq_true.mp h19 p hp
      simpa using this
theorem dn_end {n w : Int} {ways : List Int} {i : Nat} (h : DnP n w i ways) (hi : (oddL n).length ≤ i) : ways = [1] := by
  unfold DnP at h
  rw [List.drop_of_length_le hi] at h
  simpa [dnOk] using h
theorem odd_len (n : Int) (f : Int → PyData) : (List.map f (List.filter (fun a => a.fmod 2 == 1) (rangeInts 1 1 (n - 1).toNat))).length ≤ (n - 1).toNat := by
  rw [List.length_map]
  exact Nat.le_trans (List.length_filter_le _ _) (Nat.le_of_eq (rangeInts_length _ _ _))
theorem odd_len' (n : Int) (f : Int → PyData) : (List.map f (List.filter (fun a => a.fmod 2 == 1) (rangeInts 1 1 (n - 1).toNat))).length = (oddL n).length := by
  simp only [oddL, List.length_map]
theorem nw_bound {r1 r2 : Int} (h1 : 0 ≤ r1) (h2 : r1 < 3) (h3 : 0 ≤ r2) (h4 : r2 < 6) : 0 ≤ (5 + r2) * (8 + r1) ∧ (5 + r2) * (8 + r1) ≤ 100000 := by
  have a1 : 0 ≤ 5 + r2 := by (first | lia | omega)
  have a2 : 0 ≤ 8 + r1 := by (first | lia | omega)
  refine ⟨Int.mul_nonneg a1 a2, ?_⟩
  have := Int.mul_le_mul (show 5 + r2 ≤ 11 by (first | lia | omega)) (show 8 + r1 ≤ 11 by (first | lia | omega)) a2 (by decide)
  (first | lia | omega)
end Mine
namespace Mine
theorem len_lifted (a : List Int) (spot : Int) : (liftedF a spot).length ≤ spot.toNat + a.length := by
  unfold liftedF
  split <;> simp
theorem len_lifted_i {vs : List Value} {a : List Int} {spot : Int} (_ : IntsAre vs (liftedF a spot)) : (liftedF a spot).length ≤ spot.toNat + a.length := len_lifted a spot
theorem top_len {n : Int} (h : n ≤ 20) : ((List.replicate n.toNat [(0 : Int)]).flatten ++ [1]).length ≤ 1000 := by
  rw [flat_zeros]
  simp only [List.length_append, List.length_replicate, List.length_cons, List.length_nil]
  (first | lia | omega)
end Mine
namespace Mine
theorem ok_8_5 : lawOk (8 + 0) (5 + 0) = true := by decide +kernel
theorem ok_8_6 : lawOk (8 + 0) (5 + 1) = true := by decide +kernel
theorem ok_8_7 : lawOk (8 + 0) (5 + 2) = true := by decide +kernel
theorem ok_8_8 : lawOk (8 + 0) (5 + 3) = true := by decide +kernel
theorem ok_8_9 : lawOk (8 + 0) (5 + 4) = true := by decide +kernel
theorem ok_8_10 : lawOk (8 + 0) (5 + 5) = true := by decide +kernel
theorem ok_9_5 : lawOk (8 + 1) (5 + 0) = true := by decide +kernel
theorem ok_9_6 : lawOk (8 + 1) (5 + 1) = true := by decide +kernel
theorem ok_9_7 : lawOk (8 + 1) (5 + 2) = true := by decide +kernel
theorem ok_9_8 : lawOk (8 + 1) (5 + 3) = true := by decide +kernel
theorem ok_9_9 : lawOk (8 + 1) (5 + 4) = true := by decide +kernel
theorem ok_9_10 : lawOk (8 + 1) (5 + 5) = true := by decide +kernel
theorem ok_10_5 : lawOk (8 + 2) (5 + 0) = true := by decide +kernel
theorem ok_10_6 : lawOk (8 + 2) (5 + 1) = true := by decide +kernel
theorem ok_10_7 : lawOk (8 + 2) (5 + 2) = true := by decide +kernel
theorem ok_10_8 : lawOk (8 + 2) (5 + 3) = true := by decide +kernel
theorem ok_10_9 : lawOk (8 + 2) (5 + 4) = true := by decide +kernel
theorem ok_10_10 : lawOk (8 + 2) (5 + 5) = true := by decide +kernel
theorem law_all {r1 r2 : Int} (h1 : 0 ≤ r1) (h2 : r1 < 3) (h3 : 0 ≤ r2) (h4 : r2 < 6) : lawOk (8 + r1) (5 + r2) = true := by
  have a : r1 = 0 ∨ r1 = 1 ∨ r1 = 2 := by (first | lia | omega)
  have b : r2 = 0 ∨ r2 = 1 ∨ r2 = 2 ∨ r2 = 3 ∨ r2 = 4 ∨ r2 = 5 := by (first | lia | omega)
  rcases a with rfl | rfl | rfl <;> rcases b with rfl | rfl | rfl | rfl | rfl | rfl
  · exact ok_8_5
  · exact ok_8_6
  · exact ok_8_7
  · exact ok_8_8
  · exact ok_8_9
  · exact ok_8_10
  · exact ok_9_5
  · exact ok_9_6
  · exact ok_9_7
  · exact ok_9_8
  · exact ok_9_9
  · exact ok_9_10
  · exact ok_10_5
  · exact ok_10_6
  · exact ok_10_7
  · exact ok_10_8
  · exact ok_10_9
  · exact ok_10_10
end Mine

namespace Mine
local macro_rules | `(tactic| walk_at $s:str) => `(tactic| k_extra $s)
local macro_rules | `(tactic| kmk_nums) => `(tactic| k_extra "nums")
local macro_rules | `(tactic| kmk_len) => `(tactic| k_extra "len")
local macro_rules | `(tactic| omega) => `(tactic| k_extra "omega")
local macro_rules | `(tactic| passes_own) => `(tactic| assumption)

section
variable {prog : Program} {w : World} {A : Around} {E : Value → Shared → Prop} {s : Shared} {h₀ : Heap} {L dS : Addr} {m : Str → Option Value} {rest : List (Addr × Obj)} {x y v : Value} {c : Nat} {t : Tok}
/-- the first of two items is stored anew -/
theorem slab_set {Q : Unit → Shared → Prop} (F : Fr h₀ L s.heap m) (N : News h₀ L s.heap ((dS, listOf #[x, y] c) :: rest)) (hne : ∀ p ∈ rest, p.1 ≠ dS)
    (h : ∀ h', Fr h₀ L h' m → News h₀ L h' ((dS, listOf #[v, y] c) :: rest) → Q () { s with heap := h' }) : wpAny (model prog w) A (setItem (.ref dS) (.int 0 t) v) Q E s := by
  have z := N (dS, listOf #[x, y] c) (.head _)
  exact ki_setAt z.1 (by decide) (by decide) (by show (0 : Int) < 2; decide) (h _ (F.change (Heap.SameBut.update ..) z.2.1 z.2.2) (ki_turn (pre := []) _ N (fun _ hp => nomatch hp) hne rfl rfl))
end
set_option maxHeartbeats 8000000 in
theorem paved_says (w : World) (mean : ExcName → Option Value) (mg mb : Str → Option Value) (many : Int) (tm : Tok) (i : Int) (ti : Tok) (dS dI d3 : Nat) (o3 : Obj) (vI : List Value) (nI : List Int) (cS cI : Nat)
    (dp un : Nat) (gd : Option (List Code)) (cn : Str) (cs : Scope) (a : Addr) (ccd : Value) (cl : List (Str × Addr)) (outer : List Env) (A₀ : Around) (base h₀ : Heap) (L : Addr) (m : Str → Option Value) (s : Shared) (Q E : Value → Shared → Prop)
    (B : Below A₀ base outer h₀) (F : Fr h₀ L s.heap m) (X : (hd.heap_39 w.params).In h₀) (N : News h₀ L s.heap [(dS, listOf #[.int i ti, .ref dI] cS), (dI, listOf vI.toArray cI), (d3, o3)]) (T : Top hd.view_39 (looseW hd.view_39 []) mean mg mb h₀) (hk : cs.kind = .function)
    (hdp : dp + 1 < recursionLimit) (hu : un + 8 < cLine)
    (hm : 0 < many) (hi0 : 0 ≤ i) (hi5 : i ≤ 5) (hvI : IntsAre vI nI) (hl : nI.length ≤ 1000) (hd1 : dI < dS) (hd2 : d3 < dS) (hd3 : d3 ≠ dI)
    (hret : ∀ (r : Int) (t t' : Tok) (c' : Nat) (h' : Heap) (tk' : Nat), 0 ≤ r → r < many → Fr h₀ L h' m → News h₀ L h' [(dS, listOf #[.int (i + 1) t', .ref dI] c'), (dI, listOf vI.toArray cI), (d3, o3)] → Q (.int r t) { s with heap := h', toks := tk' }) :
    wpAny (model PySem.Challenge.rw_xm0400_01.row.prog w) (ktrTop dp un gd cn cs L a ccd cl outer) (call (.ref 161) [.ref dS, .int many tm]) Q E s := by
  k_with_none
  w_top off
  k_with "nums" => with_reducible first | exact kmk_all (by k_dflt l_ints) | exact kmk_from (by k_dflt l_ints) (by k_dflt kmk_sign) | exact kmk_upto (by k_dflt l_ints) (by k_dflt kmk_sign) | exact kmk_run (by k_dflt l_ints) (by k_dflt kmk_sign) (by k_dflt kmk_sign)
  k_with "len" => with_reducible first | exact List.length_drop .. | exact (List.length_take ..).trans (congrArg _ (List.length_drop ..)) | exact List.length_take ..
  k_with "omega" => k_whole; first | (with_reducible first | assumption | decide | exact And.left (by assumption) | exact And.right (by assumption) | exact room_ok (by assumption) (by with_unfolding_all rfl) | exact Nat.ne_of_lt (by assumption) | exact Nat.ne_of_gt (by assumption) | exact Nat.ne_of_gt (And.left (by assumption)) | exact Nat.ne_of_gt (And.right (by assumption)) | exact len_lt62 (by assumption) | exact nn_off (by assumption) | exact Int.natCast_nonneg _ | exact Int.add_nonneg (Int.natCast_nonneg _) (Int.natCast_nonneg _) | exact neg_off (by assumption) (by decide) | exact z_off (by assumption) | exact le_z (by decide) (by assumption) | exact lt_z (by decide) (by assumption) | exact le64 (by assumption) (by decide) | exact lt64 (by assumption) (by decide) | exact le1000 (by assumption) (by decide) | exact lt1000 (by assumption) (by decide) | exact le12 (by assumption) (by decide) | exact lt12 (by assumption) (by decide) | exact le900 (by assumption) (by decide) | exact lt900 (by assumption) (by decide) | exact nle1000 (by assumption) (by decide) | exact ne_z (by assumption) | exact Nat.ne_of_gt (And.left (And.right (by assumption))) | exact Nat.ne_of_gt (And.left (And.right (And.right (by assumption)))) | exact And.left (And.right (by assumption))) | (k_dflt lia)
  k_with "setItem ref int" => k_dflt ((rename Fr _ _ _ _ => F7); (rename News _ _ _ _ => N7); (with_unfolding_all refine slab_set F7 N7 (by k_all) ?_); intro h7 F7' N7'; (try k_sweep))
  revert X
  k_fill
  intro X
  refine wpAny_call ?_
  k_dflt cell_enter
  k_steps
  all_goals exact hret _ _ _ _ _ _ (Int.fmod_nonneg_of_pos _ hm) (Int.fmod_lt_of_pos _ hm) (by assumption) (by assumption)

set_option maxHeartbeats 8000000 in
theorem normal_says (w : World) (mean : ExcName → Option Value) (mg mb : Str → Option Value) (la : Addr) (va : List Value) (na : List Int) :
    Says w mean mg mb 58 1 8 [.ref la] (fun h => h.IsList la va.toArray ∧ IntsAre va na ∧ na.length ≤ 1000) (fun h₀ L m news s Q => RetL h₀ L m news s Q (normalF na)) := by
  k_with_none
  w_top off
  k_with "nums" => with_reducible first | exact kmk_all (by k_dflt l_ints) | exact kmk_from (by k_dflt l_ints) (by k_dflt kmk_sign) | exact kmk_upto (by k_dflt l_ints) (by k_dflt kmk_sign) | exact kmk_run (by k_dflt l_ints) (by k_dflt kmk_sign) (by k_dflt kmk_sign)
  k_with "len" => with_reducible first | exact List.length_drop .. | exact (List.length_take ..).trans (congrArg _ (List.length_drop ..)) | exact List.length_take ..
  k_with "omega" => k_whole; first | (with_reducible first | assumption | decide | exact And.left (by assumption) | exact And.right (by assumption) | exact room_ok (by assumption) (by with_unfolding_all rfl) | exact Nat.ne_of_lt (by assumption) | exact Nat.ne_of_gt (by assumption) | exact Nat.ne_of_gt (And.left (by assumption)) | exact Nat.ne_of_gt (And.right (by assumption)) | exact len_lt62 (by assumption) | exact nn_off (by assumption) | exact Int.natCast_nonneg _ | exact Int.add_nonneg (Int.natCast_nonneg _) (Int.natCast_nonneg _) | exact neg_off (by assumption) (by decide) | exact z_off (by assumption) | exact le_z (by decide) (by assumption) | exact lt_z (by decide) (by assumption) | exact le64 (by assumption) (by decide) | exact lt64 (by assumption) (by decide) | exact le1000 (by assumption) (by decide) | exact lt1000 (by assumption) (by decide) | exact le12 (by assumption) (by decide) | exact lt12 (by assumption) (by decide) | exact le900 (by assumption) (by decide) | exact lt900 (by assumption) (by decide) | exact nle1000 (by assumption) (by decide) | exact ne_z (by assumption) | exact Nat.ne_of_gt (And.left (And.right (by assumption))) | exact Nat.ne_of_gt (And.left (And.right (And.right (by assumption)))) | exact And.left (And.right (by assumption))) | (k_dflt lia)
  unfold Says
  k_fill
  intro dp un gd cn cs a ccd cl outer A₀ base h₀ L m news s Q E B F X N T hk hdp hu hpre hret
  obtain ⟨hla, hia, hfa⟩ := hpre
  refine wpAny_call ?_
  k_dflt (refine' enter2 ?k1 ?k2 ?k3 ?k5 ?kA ?kF ?kK ?k6 ?k7 ?k8 ?k9 ?kB ?_ ?c2 ?c3 ?c4 ?c5; (case kA => exact rfl); (case kF => exact rfl); (case kK => assumption); (case k1 => k_asm); (case k2 => k_asm); (case k3 => k_asm); (case k5 => k_asm); (case k6 => k_is); (case k7 => k_is); (case k8 => ktr_room); (case k9 => exact BindsTo.of_eq rfl); (case c5 => decide); (case kB => exact locs rfl); (case c2 => exact rfl); (case c3 => exact rfl); (case c4 => exact rfl); k_whole)
  intro Q' E' hQ L' h' hP' F' N' B' X' T'
  have ret := retL_of (L' := L') rfl hret F N hQ
  clear hret hQ B X T
  (try dsimp only)
  (try k_fold)
  k_steps
  all_goals ((try dsimp only); refine' ret _ _ _ _ _ _ _ _ ?eF ?eN ?eM ?eI ?eE; (case eF => assumption); (case eN => assumption); (case eM => k_mem); (case eI => first | exact ints_concat (by assumption) | l_ints); (case eE => exact normal_end (by assumption) (by assumption) (by assumption) (by assumption)))

set_option maxHeartbeats 8000000 in
theorem compare_says (w : World) (mean : ExcName → Option Value) (mg mb : Str → Option Value) (la : Addr) (va : List Value) (na : List Int) (lb : Addr) (vb : List Value) (nb : List Int) :
    Says w mean mg mb 65 1 8 [.ref la, .ref lb] (fun h => h.IsList la va.toArray ∧ IntsAre va na ∧ na.length ≤ 1000 ∧ h.IsList lb vb.toArray ∧ IntsAre vb nb ∧ nb.length ≤ 1000) (fun h₀ L m news s Q => RetI h₀ L m news s Q (compareF na nb)) := by
  k_with_none
  w_top off
  k_with "nums" => with_reducible first | exact kmk_all (by k_dflt l_ints) | exact kmk_from (by k_dflt l_ints) (by k_dflt kmk_sign) | exact kmk_upto (by k_dflt l_ints) (by k_dflt kmk_sign) | exact kmk_run (by k_dflt l_ints) (by k_dflt kmk_sign) (by k_dflt kmk_sign)
  k_with "len" => with_reducible first | exact List.length_drop .. | exact (List.length_take ..).trans (congrArg _ (List.length_drop ..)) | exact List.length_take ..
  k_with "omega" => k_whole; first | (with_reducible first | assumption | decide | exact And.left (by assumption) | exact And.right (by assumption) | exact room_ok (by assumption) (by with_unfolding_all rfl) | exact Nat.ne_of_lt (by assumption) | exact Nat.ne_of_gt (by assumption) | exact Nat.ne_of_gt (And.left (by assumption)) | exact Nat.ne_of_gt (And.right (by assumption)) | exact len_lt62 (by assumption) | exact nn_off (by assumption) | exact Int.natCast_nonneg _ | exact Int.add_nonneg (Int.natCast_nonneg _) (Int.natCast_nonneg _) | exact neg_off (by assumption) (by decide) | exact z_off (by assumption) | exact le_z (by decide) (by assumption) | exact lt_z (by decide) (by assumption) | exact le64 (by assumption) (by decide) | exact lt64 (by assumption) (by decide) | exact le1000 (by assumption) (by decide) | exact lt1000 (by assumption) (by decide) | exact le12 (by assumption) (by decide) | exact lt12 (by assumption) (by decide) | exact le900 (by assumption) (by decide) | exact lt900 (by assumption) (by decide) | exact nle1000 (by assumption) (by decide) | exact ne_z (by assumption) | exact Nat.ne_of_gt (And.left (And.right (by assumption))) | exact Nat.ne_of_gt (And.left (And.right (And.right (by assumption)))) | exact And.left (And.right (by assumption))) | (k_dflt lia)
  unfold Says
  k_fill
  intro dp un gd cn cs a ccd cl outer A₀ base h₀ L m news s Q E B F X N T hk hdp hu hpre hret
  obtain ⟨hla, hia, hfa, hlb, hib, hfb⟩ := hpre
  refine wpAny_call ?_
  k_dflt (refine' enter2 ?k1 ?k2 ?k3 ?k5 ?kA ?kF ?kK ?k6 ?k7 ?k8 ?k9 ?kB ?_ ?c2 ?c3 ?c4 ?c5; (case kA => exact rfl); (case kF => exact rfl); (case kK => assumption); (case k1 => k_asm); (case k2 => k_asm); (case k3 => k_asm); (case k5 => k_asm); (case k6 => k_is); (case k7 => k_is); (case k8 => ktr_room); (case k9 => exact BindsTo.of_eq rfl); (case c5 => decide); (case kB => exact locs rfl); (case c2 => exact rfl); (case c3 => exact rfl); (case c4 => exact rfl); k_whole)
  intro Q' E' hQ L' h' hP' F' N' B' X' T'
  have ret := retI_of (L' := L') rfl hret F N hQ
  clear hret hQ B X T
  (try dsimp only)
  (try k_fold)
  k_with "pyIter ref" => ((rename Fr _ _ _ _ => lF'); (rename News _ _ _ _ => lN'); (rename IsRange _ _ _ _ _ _ _ _ => rgX); (with_unfolding_all refine' kst_rangeD (σ := Unit) (fun _ => []) (fun _ => []) (fun _ => True) [] (fun pre _ => ∀ j : Nat, na.length - pre.length ≤ j → j < na.length → na.getD j 0 = nb.getD j 0) () (by rfl) rgX (small_down (by omega) (by omega) (by omega) (by omega)) (rangeSize_downNat _ _) lF' lN' ?kf ?kk ?kp ?_ ?_); (case kf => exact True.intro); (case kk => exact List.forall_mem_nil _); (case kp => (intro j h1 h2; simp at h1; omega)); (all_goals (try clear lF' lN')); rotate_left; (intro kC kU kH kTk kFacts kInv kFr kNews; (try k_fold)); rotate_left; (intro kC kPre kN kT kU kH kTk kOwn kEq kLt kOff kFacts kInv kFr kNews; (try simp only [List.nil_append, List.cons_append] at kNews); (have kMark := kstMark); (try k_fold)))
  k_with "state" => exact compare_turn (by assumption) (by assumption) (by assumption) (by assumption)
  k_steps
  · ((try dsimp only); refine' ret _ _ _ _ _ ?eF ?eE; (case eF => assumption); (case eE => exact compare_short (by assumption)))
  · ((try dsimp only); refine' ret _ _ _ _ _ ?eF ?eE; (case eF => assumption); (case eE => exact compare_long (by assumption) (by assumption)))
  · ((try dsimp only); refine' ret _ _ _ _ _ ?eF ?eE; (case eF => assumption); (case eE => exact compare_lt (by assumption) (by assumption) (by assumption) (by assumption) (by assumption) (by assumption)))
  · ((try dsimp only); refine' ret _ _ _ _ _ ?eF ?eE; (case eF => assumption); (case eE => exact compare_gt (by assumption) (by assumption) (by assumption) (by assumption) (by assumption) (by assumption)))
  · refine kst_end () (by assumption) (by assumption) (List.forall_mem_nil _) (by intro p hp; exact hp) rfl True.intro (List.forall_mem_nil _) ?zD ?zE
    (case zD => (intro z h1 h2 h3; simp [h1, kstB]))
    (case zE => exact compare_turn (by assumption) (by assumption) (by assumption) (by assumption))
  · ((try dsimp only); refine' ret _ _ _ _ _ ?eF ?eE; (case eF => assumption); (case eE => exact compare_same (by assumption) (downKs_length _ _) (by assumption)))

set_option maxHeartbeats 8000000 in
theorem cut_for_says (w : World) (mean : ExcName → Option Value) (mg mb : Str → Option Value) (n : Int) (tn : Tok) :
    Says w mean mg mb 114 1 8 [.int n tn] (fun h => 0 ≤ n ∧ n ≤ 1000) (fun h₀ L m news s Q => RetI h₀ L m news s Q (cutF n)) := by
  k_with_none
  w_top off
  k_with "nums" => with_reducible first | exact kmk_all (by k_dflt l_ints) | exact kmk_from (by k_dflt l_ints) (by k_dflt kmk_sign) | exact kmk_upto (by k_dflt l_ints) (by k_dflt kmk_sign) | exact kmk_run (by k_dflt l_ints) (by k_dflt kmk_sign) (by k_dflt kmk_sign)
  k_with "len" => with_reducible first | exact List.length_drop .. | exact (List.length_take ..).trans (congrArg _ (List.length_drop ..)) | exact List.length_take ..
  k_with "omega" => k_whole; first | (with_reducible first | assumption | decide | exact And.left (by assumption) | exact And.right (by assumption) | exact room_ok (by assumption) (by with_unfolding_all rfl) | exact Nat.ne_of_lt (by assumption) | exact Nat.ne_of_gt (by assumption) | exact Nat.ne_of_gt (And.left (by assumption)) | exact Nat.ne_of_gt (And.right (by assumption)) | exact len_lt62 (by assumption) | exact nn_off (by assumption) | exact Int.natCast_nonneg _ | exact Int.add_nonneg (Int.natCast_nonneg _) (Int.natCast_nonneg _) | exact neg_off (by assumption) (by decide) | exact z_off (by assumption) | exact le_z (by decide) (by assumption) | exact lt_z (by decide) (by assumption) | exact le64 (by assumption) (by decide) | exact lt64 (by assumption) (by decide) | exact le1000 (by assumption) (by decide) | exact lt1000 (by assumption) (by decide) | exact le12 (by assumption) (by decide) | exact lt12 (by assumption) (by decide) | exact le900 (by assumption) (by decide) | exact lt900 (by assumption) (by decide) | exact nle1000 (by assumption) (by decide) | exact ne_z (by assumption) | exact Nat.ne_of_gt (And.left (And.right (by assumption))) | exact Nat.ne_of_gt (And.left (And.right (And.right (by assumption)))) | exact And.left (And.right (by assumption))) | (k_dflt lia)
  unfold Says
  k_fill
  intro dp un gd cn cs a ccd cl outer A₀ base h₀ L m news s Q E B F X N T hk hdp hu hpre hret
  have hpre := hpre
  have hpq := hpre
  obtain ⟨_, _⟩ := hpq
  refine wpAny_call ?_
  k_dflt (refine' enter2 ?k1 ?k2 ?k3 ?k5 ?kA ?kF ?kK ?k6 ?k7 ?k8 ?k9 ?kB ?_ ?c2 ?c3 ?c4 ?c5; (case kA => exact rfl); (case kF => exact rfl); (case kK => assumption); (case k1 => k_asm); (case k2 => k_asm); (case k3 => k_asm); (case k5 => k_asm); (case k6 => k_is); (case k7 => k_is); (case k8 => ktr_room); (case k9 => exact BindsTo.of_eq rfl); (case c5 => decide); (case kB => exact locs rfl); (case c2 => exact rfl); (case c3 => exact rfl); (case c4 => exact rfl); k_whole)
  intro Q' E' hQ L' h' hP' F' N' B' X' T'
  have ret := retI_of (L' := L') rfl hret F N hQ
  clear hret hQ B X T
  (try dsimp only)
  (try k_fold)
  k_steps
  all_goals ((try dsimp only); refine' ret _ _ _ _ _ ?eF ?eE; (case eF => assumption); (case eE => (unfold cutF; rw [Int.fdiv_eq_ediv_of_nonneg _ (by decide)])))

set_option maxHeartbeats 8000000 in
theorem lifted_says (w : World) (mean : ExcName → Option Value) (mg mb : Str → Option Value) (la : Addr) (va : List Value) (na : List Int) (spot : Int) (tspot : Tok) :
    Says w mean mg mb 86 1 8 [.ref la, .int spot tspot] (fun h => h.IsList la va.toArray ∧ IntsAre va na ∧ na.length ≤ 1000 ∧ 0 ≤ spot ∧ spot ≤ 1000) (fun h₀ L m news s Q => RetL h₀ L m news s Q (liftedF na spot)) := by
  k_with_none
  w_top off
  k_with "nums" => with_reducible first | exact kmk_all (by k_dflt l_ints) | exact kmk_from (by k_dflt l_ints) (by k_dflt kmk_sign) | exact kmk_upto (by k_dflt l_ints) (by k_dflt kmk_sign) | exact kmk_run (by k_dflt l_ints) (by k_dflt kmk_sign) (by k_dflt kmk_sign)
  k_with "len" => with_reducible first | exact List.length_drop .. | exact (List.length_take ..).trans (congrArg _ (List.length_drop ..)) | exact List.length_take ..
  k_with "omega" => k_whole; first | (with_reducible first | assumption | decide | exact And.left (by assumption) | exact And.right (by assumption) | exact room_ok (by assumption) (by with_unfolding_all rfl) | exact Nat.ne_of_lt (by assumption) | exact Nat.ne_of_gt (by assumption) | exact Nat.ne_of_gt (And.left (by assumption)) | exact Nat.ne_of_gt (And.right (by assumption)) | exact len_lt62 (by assumption) | exact nn_off (by assumption) | exact Int.natCast_nonneg _ | exact Int.add_nonneg (Int.natCast_nonneg _) (Int.natCast_nonneg _) | exact neg_off (by assumption) (by decide) | exact z_off (by assumption) | exact le_z (by decide) (by assumption) | exact lt_z (by decide) (by assumption) | exact le64 (by assumption) (by decide) | exact lt64 (by assumption) (by decide) | exact le1000 (by assumption) (by decide) | exact lt1000 (by assumption) (by decide) | exact le12 (by assumption) (by decide) | exact lt12 (by assumption) (by decide) | exact le900 (by assumption) (by decide) | exact lt900 (by assumption) (by decide) | exact nle1000 (by assumption) (by decide) | exact ne_z (by assumption) | exact Nat.ne_of_gt (And.left (And.right (by assumption))) | exact Nat.ne_of_gt (And.left (And.right (And.right (by assumption)))) | exact And.left (And.right (by assumption))) | (k_dflt lia)
  unfold Says
  k_fill
  intro dp un gd cn cs a ccd cl outer A₀ base h₀ L m news s Q E B F X N T hk hdp hu hpre hret
  obtain ⟨hla, hia, hfa, hpre⟩ := hpre
  have hpq := hpre
  obtain ⟨_, _⟩ := hpq
  refine wpAny_call ?_
  k_dflt (refine' enter2 ?k1 ?k2 ?k3 ?k5 ?kA ?kF ?kK ?k6 ?k7 ?k8 ?k9 ?kB ?_ ?c2 ?c3 ?c4 ?c5; (case kA => exact rfl); (case kF => exact rfl); (case kK => assumption); (case k1 => k_asm); (case k2 => k_asm); (case k3 => k_asm); (case k5 => k_asm); (case k6 => k_is); (case k7 => k_is); (case k8 => ktr_room); (case k9 => exact BindsTo.of_eq rfl); (case c5 => decide); (case kB => exact locs rfl); (case c2 => exact rfl); (case c3 => exact rfl); (case c4 => exact rfl); k_whole)
  intro Q' E' hQ L' h' hP' F' N' B' X' T'
  have ret := retL_of (L' := L') rfl hret F N hQ
  clear hret hQ B X T
  (try dsimp only)
  (try k_fold)
  k_steps
  · ((try dsimp only); refine' ret _ _ _ _ _ _ _ _ ?eF ?eN ?eM ?eI ?eE; (case eF => assumption); (case eN => assumption); (case eM => k_mem); (case eI => first | exact ints_concat (by assumption) | l_ints); (case eE => exact lifted_end1 (by assumption)))
  · ((try dsimp only); refine' ret _ _ _ _ _ _ _ _ ?eF ?eN ?eM ?eI ?eE; (case eF => assumption); (case eN => assumption); (case eM => k_mem); (case eI => first | exact ints_concat (by assumption) | l_ints); (case eE => exact lifted_end2 (by assumption)))

set_option maxHeartbeats 8000000 in
theorem add_says (w : World) (mean : ExcName → Option Value) (mg mb : Str → Option Value) (la : Addr) (va : List Value) (na : List Int) (lb : Addr) (vb : List Value) (nb : List Int) (w_ : Int) (tw_ : Tok) :
    Says w mean mg mb 72 1 8 [.ref la, .ref lb, .int w_ tw_] (fun h => h.IsList la va.toArray ∧ IntsAre va na ∧ na.length ≤ 1000 ∧ h.IsList lb vb.toArray ∧ IntsAre vb nb ∧ nb.length ≤ 1000 ∧ 0 ≤ w_ ∧ w_ ≤ 64) (fun h₀ L m news s Q => RetL h₀ L m news s Q (addF na nb w_)) := by
  k_with_none
  w_top off
  k_with "nums" => with_reducible first | exact kmk_all (by k_dflt l_ints) | exact kmk_from (by k_dflt l_ints) (by k_dflt kmk_sign) | exact kmk_upto (by k_dflt l_ints) (by k_dflt kmk_sign) | exact kmk_run (by k_dflt l_ints) (by k_dflt kmk_sign) (by k_dflt kmk_sign)
  k_with "len" => with_reducible first | exact List.length_drop .. | exact (List.length_take ..).trans (congrArg _ (List.length_drop ..)) | exact List.length_take ..
  k_with "omega" => k_whole; first | (with_reducible first | assumption | decide | exact And.left (by assumption) | exact And.right (by assumption) | exact room_ok (by assumption) (by with_unfolding_all rfl) | exact Nat.ne_of_lt (by assumption) | exact Nat.ne_of_gt (by assumption) | exact Nat.ne_of_gt (And.left (by assumption)) | exact Nat.ne_of_gt (And.right (by assumption)) | exact len_lt62 (by assumption) | exact nn_off (by assumption) | exact Int.natCast_nonneg _ | exact Int.add_nonneg (Int.natCast_nonneg _) (Int.natCast_nonneg _) | exact neg_off (by assumption) (by decide) | exact z_off (by assumption) | exact le_z (by decide) (by assumption) | exact lt_z (by decide) (by assumption) | exact le64 (by assumption) (by decide) | exact lt64 (by assumption) (by decide) | exact le1000 (by assumption) (by decide) | exact lt1000 (by assumption) (by decide) | exact le12 (by assumption) (by decide) | exact lt12 (by assumption) (by decide) | exact le900 (by assumption) (by decide) | exact lt900 (by assumption) (by decide) | exact nle1000 (by assumption) (by decide) | exact ne_z (by assumption) | exact Nat.ne_of_gt (And.left (And.right (by assumption))) | exact Nat.ne_of_gt (And.left (And.right (And.right (by assumption)))) | exact And.left (And.right (by assumption))) | (k_dflt lia)
  unfold Says
  k_fill
  intro dp un gd cn cs a ccd cl outer A₀ base h₀ L m news s Q E B F X N T hk hdp hu hpre hret
  obtain ⟨hla, hia, hfa, hlb, hib, hfb, hpre⟩ := hpre
  have hpq := hpre
  obtain ⟨_, _⟩ := hpq
  refine wpAny_call ?_
  k_dflt (refine' enter2 ?k1 ?k2 ?k3 ?k5 ?kA ?kF ?kK ?k6 ?k7 ?k8 ?k9 ?kB ?_ ?c2 ?c3 ?c4 ?c5; (case kA => exact rfl); (case kF => exact rfl); (case kK => assumption); (case k1 => k_asm); (case k2 => k_asm); (case k3 => k_asm); (case k5 => k_asm); (case k6 => k_is); (case k7 => k_is); (case k8 => ktr_room); (case k9 => exact BindsTo.of_eq rfl); (case c5 => decide); (case kB => exact locs rfl); (case c2 => exact rfl); (case c3 => exact rfl); (case c4 => exact rfl); k_whole)
  intro Q' E' hQ L' h' hP' F' N' B' X' T'
  have ret := retL_of (L' := L') rfl hret F N hQ
  clear hret hQ B X T
  (try dsimp only)
  (try k_fold)
  k_with "exec If" => ((goal_lacks Mine.SwapTo); (with_reducible show wpAny _ _ (exec (Stmt.If _ [Stmt.Assign _ _ _] [] _) _) _ _ _); k_dflt (refine swap_join la lb (Str.ofString "a") (Str.ofString "b") ((na.length : Int) < nb.length) (by assumption) ?_ ?_); rotate_left; (intro hJ0 tkJ0 lJ lK cJ FJ NJ; (obtain ⟨vJ, nJ, vK, nK, hlJ, hiJ, hfJ, hlK, hiK, hfK, hleJ, hadJ⟩ := swap_lists w_ cJ hla hia hfa hlb hib hfb); clear cJ; (try dsimp only); (try k_fold)); rotate_left)
  k_with "SwapTo" => k_dflt (exact SwapTo.mk rfl ⟨_, _, _, _, _, rfl, by assumption, by first | exact Or.inl ⟨by assumption, rfl, rfl⟩ | exact Or.inr ⟨by assumption, rfl, rfl⟩, by with_unfolding_all rfl, by with_unfolding_all rfl, by (intro z h1 h2; first | rfl | (simp [h1, h2]))⟩)
  k_with "pyIter ref" => k_state_given ["found!"] (fun f0 pre carry found => f0.length ≤ 1000 ∧ found.length = f0.length + pre.length ∧ found = (addSt (fun k => nJ.getD k 0 + nK.getD k 0) (2 ^ w_.toNat) found.length).1 ∧ carry = (addSt (fun k => nJ.getD k 0 + nK.getD k 0) (2 ^ w_.toNat) found.length).2) "carry" "found"
  k_with "state" => (first | exact add_start | exact add_start2 (by (try simp only [rangeKs_length, List.length_nil, Nat.zero_add] at *); omega) (by assumption) (by assumption) | exact add_turn (by assumption) (by assumption) (by assumption) (by assumption) (by (try simp only [rangeKs_length, List.length_nil, Nat.zero_add] at *); first | exact add_t1 (by omega) | exact add_t2 (by omega) (by omega)))
  k_steps
  all_goals (try simp only [rangeKs_length, List.length_nil, Nat.zero_add] at *)
  all_goals first
    | ((try dsimp only); refine' ret _ _ _ _ _ _ _ _ ?eF ?eN ?eM ?eI ?eE; (case eF => assumption); (case eN => assumption); (case eM => k_mem); (case eI => first | exact ints_concat (by assumption) | l_ints); (case eE => exact (add_end1 (by assumption) (by assumption) (by omega) (by assumption)).trans hadJ))
    | ((try dsimp only); refine' ret _ _ _ _ _ _ _ _ ?eF ?eN ?eM ?eI ?eE; (case eF => assumption); (case eN => assumption); (case eM => k_mem); (case eI => first | exact ints_concat (by assumption) | l_ints); (case eE => exact (add_end2 (by assumption) (by assumption) (by omega) (by assumption)).trans hadJ))

set_option maxHeartbeats 8000000 in
theorem low_limbs_says (w : World) (mean : ExcName → Option Value) (mg mb : Str → Option Value) (la : Addr) (va : List Value) (na : List Int) (n : Int) (tn : Tok) :
    Says w mean mg mb 135 2 16 [.ref la, .int n tn] (fun h => h.IsList la va.toArray ∧ IntsAre va na ∧ na.length ≤ 1000 ∧ 0 ≤ n ∧ n ≤ 1000) (fun h₀ L m news s Q => RetL h₀ L m news s Q (lowLimbsF na n)) := by
  k_with_none
  w_top off
  k_with "nums" => with_reducible first | exact kmk_all (by k_dflt l_ints) | exact kmk_from (by k_dflt l_ints) (by k_dflt kmk_sign) | exact kmk_upto (by k_dflt l_ints) (by k_dflt kmk_sign) | exact kmk_run (by k_dflt l_ints) (by k_dflt kmk_sign) (by k_dflt kmk_sign)
  k_with "len" => with_reducible first | exact List.length_drop .. | exact (List.length_take ..).trans (congrArg _ (List.length_drop ..)) | exact List.length_take ..
  k_with "omega" => k_whole; first | (with_reducible first | assumption | decide | exact And.left (by assumption) | exact And.right (by assumption) | exact room_ok (by assumption) (by with_unfolding_all rfl) | exact Nat.ne_of_lt (by assumption) | exact Nat.ne_of_gt (by assumption) | exact Nat.ne_of_gt (And.left (by assumption)) | exact Nat.ne_of_gt (And.right (by assumption)) | exact len_lt62 (by assumption) | exact nn_off (by assumption) | exact Int.natCast_nonneg _ | exact Int.add_nonneg (Int.natCast_nonneg _) (Int.natCast_nonneg _) | exact neg_off (by assumption) (by decide) | exact z_off (by assumption) | exact le_z (by decide) (by assumption) | exact lt_z (by decide) (by assumption) | exact le64 (by assumption) (by decide) | exact lt64 (by assumption) (by decide) | exact le1000 (by assumption) (by decide) | exact lt1000 (by assumption) (by decide) | exact le12 (by assumption) (by decide) | exact lt12 (by assumption) (by decide) | exact le900 (by assumption) (by decide) | exact lt900 (by assumption) (by decide) | exact nle1000 (by assumption) (by decide) | exact ne_z (by assumption) | exact Nat.ne_of_gt (And.left (And.right (by assumption))) | exact Nat.ne_of_gt (And.left (And.right (And.right (by assumption)))) | exact And.left (And.right (by assumption))) | (k_dflt lia)
  unfold Says
  k_fill
  intro dp un gd cn cs a ccd cl outer A₀ base h₀ L m news s Q E B F X N T hk hdp hu hpre hret
  obtain ⟨hla, hia, hfa, hpre⟩ := hpre
  have hpq := hpre
  obtain ⟨_, _⟩ := hpq
  refine wpAny_call ?_
  k_dflt (refine' enter2 ?k1 ?k2 ?k3 ?k5 ?kA ?kF ?kK ?k6 ?k7 ?k8 ?k9 ?kB ?_ ?c2 ?c3 ?c4 ?c5; (case kA => exact rfl); (case kF => exact rfl); (case kK => assumption); (case k1 => k_asm); (case k2 => k_asm); (case k3 => k_asm); (case k5 => k_asm); (case k6 => k_is); (case k7 => k_is); (case k8 => ktr_room); (case k9 => exact BindsTo.of_eq rfl); (case c5 => decide); (case kB => exact locs rfl); (case c2 => exact rfl); (case c3 => exact rfl); (case c4 => exact rfl); k_whole)
  intro Q' E' hQ L' h' hP' F' N' B' X' T'
  have ret := retL_of (L' := L') rfl hret F N hQ
  clear hret hQ B X T
  (try dsimp only)
  (try k_fold)
  k_with "call ref" => (k_here; (with_reducible show wpAny _ _ (call (Value.ref 58) [Value.ref _]) _ _ _); k_dflt (refine normal_says _ _ _ _ _ _ _ _ _ _ _ _ _ _ _ _ _ _ _ _ _ _ _ _ _ (by k_asm) (by k_asm) (by k_asm) (by k_asm) (by k_asm) (by first | exact rfl | assumption) (by ktr_room) (by ktr_units) (by ((try dsimp only); (refine' ⟨?_, ?_, ?_⟩; (case _ => kmk_list); (case _ => first | l_ints | exact IntsAre.nil | exact IntsAre.cons _ _ IntsAre.nil); (case _ => first | with_reducible assumption | omega | assumption |  ((try simp only [List.length_take, List.length_drop, List.length_append, List.length_cons, List.length_nil]); omega) | (simp only [List.length_map, rangeKs_length]; omega) | (simp only [List.length_map, rangeKs_length, List.length_cons, List.length_nil] at *; omega))))) ?_); intro D9 vs9 c9 h9 tk9 F9 N9 ne9 i9; (have q9 := len_normal_i i9); (try dsimp only); (try k_sweep); (try k_fold))
  k_steps
  all_goals ((try dsimp only); refine' ret _ _ _ _ _ _ _ _ ?eF ?eN ?eM ?eI ?eE; (case eF => assumption); (case eN => assumption); (case eM => k_mem); (case eI => first | exact ints_concat (by assumption) | l_ints); (case eE => rfl))

set_option maxHeartbeats 8000000 in
theorem low_says (w : World) (mean : ExcName → Option Value) (mg mb : Str → Option Value) (la : Addr) (va : List Value) (na : List Int) (n : Int) (tn : Tok) (w_ : Int) (tw_ : Tok) :
    Says w mean mg mb 100 2 16 [.ref la, .int n tn, .int w_ tw_] (fun h => h.IsList la va.toArray ∧ IntsAre va na ∧ na.length ≤ 1000 ∧ 0 < w_ ∧ w_ ≤ 64 ∧ 0 ≤ n ∧ n ≤ 100000) (fun h₀ L m news s Q => RetL h₀ L m news s Q (lowF na n w_)) := by
  k_with_none
  w_top off
  k_with "nums" => with_reducible first | exact kmk_all (by k_dflt l_ints) | exact kmk_from (by k_dflt l_ints) (by k_dflt kmk_sign) | exact kmk_upto (by k_dflt l_ints) (by k_dflt kmk_sign) | exact kmk_run (by k_dflt l_ints) (by k_dflt kmk_sign) (by k_dflt kmk_sign)
  k_with "len" => with_reducible first | exact List.length_drop .. | exact (List.length_take ..).trans (congrArg _ (List.length_drop ..)) | exact List.length_take ..
  k_with "omega" => k_whole; first | (with_reducible first | assumption | decide | exact And.left (by assumption) | exact And.right (by assumption) | exact room_ok (by assumption) (by with_unfolding_all rfl) | exact Nat.ne_of_lt (by assumption) | exact Nat.ne_of_gt (by assumption) | exact Nat.ne_of_gt (And.left (by assumption)) | exact Nat.ne_of_gt (And.right (by assumption)) | exact len_lt62 (by assumption) | exact nn_off (by assumption) | exact Int.natCast_nonneg _ | exact Int.add_nonneg (Int.natCast_nonneg _) (Int.natCast_nonneg _) | exact neg_off (by assumption) (by decide) | exact z_off (by assumption) | exact le_z (by decide) (by assumption) | exact lt_z (by decide) (by assumption) | exact le64 (by assumption) (by decide) | exact lt64 (by assumption) (by decide) | exact le1000 (by assumption) (by decide) | exact lt1000 (by assumption) (by decide) | exact le12 (by assumption) (by decide) | exact lt12 (by assumption) (by decide) | exact le900 (by assumption) (by decide) | exact lt900 (by assumption) (by decide) | exact nle1000 (by assumption) (by decide) | exact ne_z (by assumption) | exact Nat.ne_of_gt (And.left (And.right (by assumption))) | exact Nat.ne_of_gt (And.left (And.right (And.right (by assumption)))) | exact And.left (And.right (by assumption))) | (k_dflt lia)
  unfold Says
  k_fill
  intro dp un gd cn cs a ccd cl outer A₀ base h₀ L m news s Q E B F X N T hk hdp hu hpre hret
  obtain ⟨hla, hia, hfa, hpre⟩ := hpre
  have hpq := hpre
  obtain ⟨_, _, _, _⟩ := hpq
  refine wpAny_call ?_
  k_dflt (refine' enter2 ?k1 ?k2 ?k3 ?k5 ?kA ?kF ?kK ?k6 ?k7 ?k8 ?k9 ?kB ?_ ?c2 ?c3 ?c4 ?c5; (case kA => exact rfl); (case kF => exact rfl); (case kK => assumption); (case k1 => k_asm); (case k2 => k_asm); (case k3 => k_asm); (case k5 => k_asm); (case k6 => k_is); (case k7 => k_is); (case k8 => ktr_room); (case k9 => exact BindsTo.of_eq rfl); (case c5 => decide); (case kB => exact locs rfl); (case c2 => exact rfl); (case c3 => exact rfl); (case c4 => exact rfl); k_whole)
  intro Q' E' hQ L' h' hP' F' N' B' X' T'
  have ret := retL_of (L' := L') rfl hret F N hQ
  clear hret hQ B X T
  (try dsimp only)
  (try k_fold)
  k_with "call ref" => (k_here; (with_reducible show wpAny _ _ (call (Value.ref 58) [Value.ref _]) _ _ _); k_dflt (refine normal_says _ _ _ _ _ _ _ _ _ _ _ _ _ _ _ _ _ _ _ _ _ _ _ _ _ (by k_asm) (by k_asm) (by k_asm) (by k_asm) (by k_asm) (by first | exact rfl | assumption) (by ktr_room) (by ktr_units) (by ((try dsimp only); (refine' ⟨?_, ?_, ?_⟩; (case _ => kmk_list); (case _ => first | l_ints | exact IntsAre.nil | exact IntsAre.cons _ _ IntsAre.nil); (case _ => first | with_reducible assumption | omega | assumption |  ((try simp only [List.length_take, List.length_drop, List.length_append, List.length_cons, List.length_nil]); omega) | (simp only [List.length_map, rangeKs_length]; omega) | (simp only [List.length_map, rangeKs_length, List.length_cons, List.length_nil] at *; omega))))) ?_); intro D9 vs9 c9 h9 tk9 F9 N9 ne9 i9; (have q9 := len_normal_i i9); (try dsimp only); (try k_sweep); (try k_fold))
  have hq1 : 0 ≤ n.fdiv w_ := (low_facts hpre.1 hpre.2.2.1).1
  have hq2 : 0 ≤ n.fmod w_ := (low_facts hpre.1 hpre.2.2.1).2.1
  have hq3 : n.fmod w_ < 64 := Int.lt_of_lt_of_le (low_facts hpre.1 hpre.2.2.1).2.2 hpre.2.1
  k_steps
  · ((try dsimp only); refine' ret _ _ _ _ _ _ _ _ ?eF ?eN ?eM ?eI ?eE; (case eF => assumption); (case eN => assumption); (case eM => k_mem); (case eI => first | exact ints_concat (by assumption) | l_ints); (case eE => exact low_end1 hpre.1 (by assumption)))
  · ((try dsimp only); refine' ret _ _ _ _ _ _ _ _ ?eF ?eN ?eM ?eI ?eE; (case eF => assumption); (case eN => assumption); (case eM => k_mem); (case eI => first | exact ints_concat (by assumption) | l_ints); (case eE => exact low_end2 hpre.1 (by assumption)))

set_option maxHeartbeats 8000000 in
theorem add_at_says (w : World) (mean : ExcName → Option Value) (mg mb : Str → Option Value) (la : Addr) (va : List Value) (na : List Int) (lb : Addr) (vb : List Value) (nb : List Int) (spot : Int) (tspot : Tok) (w_ : Int) (tw_ : Tok) :
    Says w mean mg mb 93 2 16 [.ref la, .ref lb, .int spot tspot, .int w_ tw_] (fun h => h.IsList la va.toArray ∧ IntsAre va na ∧ na.length ≤ 1000 ∧ h.IsList lb vb.toArray ∧ IntsAre vb nb ∧ nb.length ≤ 1000 ∧ 0 ≤ w_ ∧ w_ ≤ 64 ∧ 0 ≤ spot ∧ spot ≤ 1000) (fun h₀ L m news s Q => RetL h₀ L m news s Q (addAtF na nb spot w_)) := by
  k_with_none
  w_top off
  k_with "nums" => with_reducible first | exact kmk_all (by k_dflt l_ints) | exact kmk_from (by k_dflt l_ints) (by k_dflt kmk_sign) | exact kmk_upto (by k_dflt l_ints) (by k_dflt kmk_sign) | exact kmk_run (by k_dflt l_ints) (by k_dflt kmk_sign) (by k_dflt kmk_sign)
  k_with "len" => with_reducible first | exact List.length_drop .. | exact (List.length_take ..).trans (congrArg _ (List.length_drop ..)) | exact List.length_take ..
  k_with "omega" => k_whole; first | (with_reducible first | assumption | decide | exact And.left (by assumption) | exact And.right (by assumption) | exact room_ok (by assumption) (by with_unfolding_all rfl) | exact Nat.ne_of_lt (by assumption) | exact Nat.ne_of_gt (by assumption) | exact Nat.ne_of_gt (And.left (by assumption)) | exact Nat.ne_of_gt (And.right (by assumption)) | exact len_lt62 (by assumption) | exact nn_off (by assumption) | exact Int.natCast_nonneg _ | exact Int.add_nonneg (Int.natCast_nonneg _) (Int.natCast_nonneg _) | exact neg_off (by assumption) (by decide) | exact z_off (by assumption) | exact le_z (by decide) (by assumption) | exact lt_z (by decide) (by assumption) | exact le64 (by assumption) (by decide) | exact lt64 (by assumption) (by decide) | exact le1000 (by assumption) (by decide) | exact lt1000 (by assumption) (by decide) | exact le12 (by assumption) (by decide) | exact lt12 (by assumption) (by decide) | exact le900 (by assumption) (by decide) | exact lt900 (by assumption) (by decide) | exact nle1000 (by assumption) (by decide) | exact ne_z (by assumption) | exact Nat.ne_of_gt (And.left (And.right (by assumption))) | exact Nat.ne_of_gt (And.left (And.right (And.right (by assumption)))) | exact And.left (And.right (by assumption))) | (k_dflt lia)
  unfold Says
  k_fill
  intro dp un gd cn cs a ccd cl outer A₀ base h₀ L m news s Q E B F X N T hk hdp hu hpre hret
  obtain ⟨hla, hia, hfa, hlb, hib, hfb, hpre⟩ := hpre
  have hpq := hpre
  obtain ⟨_, _, _, _⟩ := hpq
  refine wpAny_call ?_
  k_dflt (refine' enter2 ?k1 ?k2 ?k3 ?k5 ?kA ?kF ?kK ?k6 ?k7 ?k8 ?k9 ?kB ?_ ?c2 ?c3 ?c4 ?c5; (case kA => exact rfl); (case kF => exact rfl); (case kK => assumption); (case k1 => k_asm); (case k2 => k_asm); (case k3 => k_asm); (case k5 => k_asm); (case k6 => k_is); (case k7 => k_is); (case k8 => ktr_room); (case k9 => exact BindsTo.of_eq rfl); (case c5 => decide); (case kB => exact locs rfl); (case c2 => exact rfl); (case c3 => exact rfl); (case c4 => exact rfl); k_whole)
  intro Q' E' hQ L' h' hP' F' N' B' X' T'
  have ret := retL_of (L' := L') rfl hret F N hQ
  clear hret hQ B X T
  (try dsimp only)
  (try k_fold)
  k_with "call ref" => (k_here; (with_reducible show wpAny _ _ (call (Value.ref 72) [Value.ref _, Value.ref _, Value.int _ _]) _ _ _); k_dflt (refine add_says _ _ _ _ _ _ _ _ _ _ _ _ _ _ _ _ _ _ _ _ _ _ _ _ _ _ _ _ _ _ (by k_asm) (by k_asm) (by k_asm) (by k_asm) (by k_asm) (by first | exact rfl | assumption) (by ktr_room) (by ktr_units) (by ((try dsimp only); (refine' ⟨?_, ?_, ?_, ?_, ?_, ?_, ?_⟩; (case _ => kmk_list); (case _ => first | l_ints | exact IntsAre.nil | exact IntsAre.cons _ _ IntsAre.nil); (case _ => first | with_reducible assumption | omega | assumption |  ((try simp only [List.length_take, List.length_drop, List.length_append, List.length_cons, List.length_nil]); omega) | (simp only [List.length_map, rangeKs_length]; omega) | (simp only [List.length_map, rangeKs_length, List.length_cons, List.length_nil] at *; omega)); (case _ => kmk_list); (case _ => first | l_ints | exact IntsAre.nil | exact IntsAre.cons _ _ IntsAre.nil); (case _ => first | with_reducible assumption | omega | assumption |  ((try simp only [List.length_take, List.length_drop, List.length_append, List.length_cons, List.length_nil]); omega) | (simp only [List.length_map, rangeKs_length]; omega) | (simp only [List.length_map, rangeKs_length, List.length_cons, List.length_nil] at *; omega)); (case _ => ((repeat' (with_reducible refine And.intro ?_ ?_)) <;> first | with_reducible assumption | omega | (first | with_reducible assumption | omega | assumption |  ((try simp only [List.length_take, List.length_drop, List.length_append, List.length_cons, List.length_nil]); omega) | (simp only [List.length_map, rangeKs_length]; omega) | (simp only [List.length_map, rangeKs_length, List.length_cons, List.length_nil] at *; omega)) | ((repeat' (first | with_reducible assumption | apply SmP.normal | apply SmP.low | apply SmP.take | apply SmP.drop)); done)))))) ?_); intro D9 vs9 c9 h9 tk9 F9 N9 ne9 i9; (have q9 := len_add_i i9); (try dsimp only); (try k_sweep); (try k_fold))
  k_steps
  · ((try dsimp only); refine' ret _ _ _ _ _ _ _ _ ?eF ?eN ?eM ?eI ?eE; (case eF => assumption); (case eN => assumption); (case eM => k_mem); (case eI => first | exact ints_concat (by assumption) | l_ints); (case eE => exact add_at_end1 (by assumption)))
  · ((try dsimp only); refine' ret _ _ _ _ _ _ _ _ ?eF ?eN ?eM ?eI ?eE; (case eF => assumption); (case eN => assumption); (case eM => k_mem); (case eI => first | exact ints_concat (by assumption) | l_ints); (case eE => exact add_at_end2 (by assumption) (by assumption)))
  · ((try dsimp only); refine' ret _ _ _ _ _ _ _ _ ?eF ?eN ?eM ?eI ?eE; (case eF => assumption); (case eN => assumption); (case eM => k_mem); (case eI => first | exact ints_concat (by assumption) | l_ints); (case eE => exact add_at_end3 (by assumption) (by assumption)))

set_option maxHeartbeats 8000000 in
theorem sub_says (w : World) (mean : ExcName → Option Value) (mg mb : Str → Option Value) (la : Addr) (va : List Value) (na : List Int) (lb : Addr) (vb : List Value) (nb : List Int) (w_ : Int) (tw_ : Tok) :
    Says w mean mg mb 79 2 16 [.ref la, .ref lb, .int w_ tw_] (fun h => h.IsList la va.toArray ∧ IntsAre va na ∧ na.length ≤ 1000 ∧ h.IsList lb vb.toArray ∧ IntsAre vb nb ∧ nb.length ≤ 1000 ∧ 0 ≤ w_ ∧ w_ ≤ 64 ∧ 0 ≤ compareF na nb) (fun h₀ L m news s Q => RetL h₀ L m news s Q (subF na nb w_)) := by
  k_with_none
  w_top off
  k_with "nums" => with_reducible first | exact kmk_all (by k_dflt l_ints) | exact kmk_from (by k_dflt l_ints) (by k_dflt kmk_sign) | exact kmk_upto (by k_dflt l_ints) (by k_dflt kmk_sign) | exact kmk_run (by k_dflt l_ints) (by k_dflt kmk_sign) (by k_dflt kmk_sign)
  k_with "len" => with_reducible first | exact List.length_drop .. | exact (List.length_take ..).trans (congrArg _ (List.length_drop ..)) | exact List.length_take ..
  k_with "omega" => k_whole; first | (with_reducible first | assumption | decide | exact And.left (by assumption) | exact And.right (by assumption) | exact room_ok (by assumption) (by with_unfolding_all rfl) | exact Nat.ne_of_lt (by assumption) | exact Nat.ne_of_gt (by assumption) | exact Nat.ne_of_gt (And.left (by assumption)) | exact Nat.ne_of_gt (And.right (by assumption)) | exact len_lt62 (by assumption) | exact nn_off (by assumption) | exact Int.natCast_nonneg _ | exact Int.add_nonneg (Int.natCast_nonneg _) (Int.natCast_nonneg _) | exact neg_off (by assumption) (by decide) | exact z_off (by assumption) | exact le_z (by decide) (by assumption) | exact lt_z (by decide) (by assumption) | exact le64 (by assumption) (by decide) | exact lt64 (by assumption) (by decide) | exact le1000 (by assumption) (by decide) | exact lt1000 (by assumption) (by decide) | exact le12 (by assumption) (by decide) | exact lt12 (by assumption) (by decide) | exact le900 (by assumption) (by decide) | exact lt900 (by assumption) (by decide) | exact nle1000 (by assumption) (by decide) | exact ne_z (by assumption) | exact Nat.ne_of_gt (And.left (And.right (by assumption))) | exact Nat.ne_of_gt (And.left (And.right (And.right (by assumption)))) | exact And.left (And.right (by assumption))) | (k_dflt lia)
  unfold Says
  k_fill
  intro dp un gd cn cs a ccd cl outer A₀ base h₀ L m news s Q E B F X N T hk hdp hu hpre hret
  obtain ⟨hla, hia, hfa, hlb, hib, hfb, hpre⟩ := hpre
  have hpq := hpre
  obtain ⟨_, _, _⟩ := hpq
  refine wpAny_call ?_
  k_dflt (refine' enter2 ?k1 ?k2 ?k3 ?k5 ?kA ?kF ?kK ?k6 ?k7 ?k8 ?k9 ?kB ?_ ?c2 ?c3 ?c4 ?c5; (case kA => exact rfl); (case kF => exact rfl); (case kK => assumption); (case k1 => k_asm); (case k2 => k_asm); (case k3 => k_asm); (case k5 => k_asm); (case k6 => k_is); (case k7 => k_is); (case k8 => ktr_room); (case k9 => exact BindsTo.of_eq rfl); (case c5 => decide); (case kB => exact locs rfl); (case c2 => exact rfl); (case c3 => exact rfl); (case c4 => exact rfl); k_whole)
  intro Q' E' hQ L' h' hP' F' N' B' X' T'
  have ret := retL_of (L' := L') rfl hret F N hQ
  clear hret hQ B X T
  (try dsimp only)
  (try k_fold)
  k_with "call ref" => (k_here; (with_reducible show wpAny _ _ (call (Value.ref 58) [Value.ref _]) _ _ _); k_dflt (refine normal_says _ _ _ _ _ _ _ _ _ _ _ _ _ _ _ _ _ _ _ _ _ _ _ _ _ (by k_asm) (by k_asm) (by k_asm) (by k_asm) (by k_asm) (by first | exact rfl | assumption) (by ktr_room) (by ktr_units) (by ((try dsimp only); (refine' ⟨?_, ?_, ?_⟩; (case _ => kmk_list); (case _ => first | l_ints | exact IntsAre.nil | exact IntsAre.cons _ _ IntsAre.nil); (case _ => first | with_reducible assumption | omega | assumption |  ((try simp only [List.length_take, List.length_drop, List.length_append, List.length_cons, List.length_nil]); omega) | (simp only [List.length_map, rangeKs_length]; omega) | (simp only [List.length_map, rangeKs_length, List.length_cons, List.length_nil] at *; omega))))) ?_); intro D9 vs9 c9 h9 tk9 F9 N9 ne9 i9; (have q9 := len_normal_i i9); (try dsimp only); (try k_sweep); (try k_fold))
  k_with "call ref" => (k_here; (with_reducible show wpAny _ _ (call (Value.ref 65) [Value.ref _, Value.ref _]) _ _ _); k_dflt (refine compare_says _ _ _ _ _ _ _ _ _ _ _ _ _ _ _ _ _ _ _ _ _ _ _ _ _ _ _ _ (by k_asm) (by k_asm) (by k_asm) (by k_asm) (by k_asm) (by first | exact rfl | assumption) (by ktr_room) (by ktr_units) (by ((try dsimp only); (refine' ⟨?_, ?_, ?_, ?_, ?_, ?_⟩; (case _ => kmk_list); (case _ => first | l_ints | exact IntsAre.nil | exact IntsAre.cons _ _ IntsAre.nil); (case _ => first | with_reducible assumption | omega | assumption |  ((try simp only [List.length_take, List.length_drop, List.length_append, List.length_cons, List.length_nil]); omega) | (simp only [List.length_map, rangeKs_length]; omega) | (simp only [List.length_map, rangeKs_length, List.length_cons, List.length_nil] at *; omega)); (case _ => kmk_list); (case _ => first | l_ints | exact IntsAre.nil | exact IntsAre.cons _ _ IntsAre.nil); (case _ => first | with_reducible assumption | omega | assumption |  ((try simp only [List.length_take, List.length_drop, List.length_append, List.length_cons, List.length_nil]); omega) | (simp only [List.length_map, rangeKs_length]; omega) | (simp only [List.length_map, rangeKs_length, List.length_cons, List.length_nil] at *; omega))))) ?_); intro t9 h9 tk9 F9 N9; (try dsimp only); (try k_sweep); (try k_fold))
  k_with "pyIter ref" => k_state (fun pre borrow found => found.length = pre.length ∧ found = (subSt (fun k => na.getD k 0) (fun k => nb.getD k 0) (2 ^ w_.toNat) pre.length).1 ∧ borrow = (subSt (fun k => na.getD k 0) (fun k => nb.getD k 0) (2 ^ w_.toNat) pre.length).2) "borrow" "found"
  k_with "state" => first | exact ⟨rfl, rfl, rfl⟩ | exact sub_turn1 (by assumption) (by assumption) (by assumption) kEq (by first | rfl | exact past_zero (by assumption)) (by assumption) | exact sub_turn2 (by assumption) (by assumption) (by assumption) kEq (by first | rfl | exact past_zero (by assumption)) (by assumption)
  k_steps
  all_goals ((try dsimp only); refine' ret _ _ _ _ _ _ _ _ ?eF ?eN ?eM ?eI ?eE; (case eF => assumption); (case eN => assumption); (case eM => k_mem); (case eI => first | exact ints_concat (by assumption) | l_ints); (case eE => exact sub_end (by assumption) (by rw [rangeKs_length]; omega)))

set_option maxHeartbeats 8000000 in
theorem low_school_says (w : World) (mean : ExcName → Option Value) (mg mb : Str → Option Value) (la : Addr) (va : List Value) (na : List Int) (lb : Addr) (vb : List Value) (nb : List Int) (n : Int) (tn : Tok) (w_ : Int) (tw_ : Tok) :
    Says w mean mg mb 107 2 16 [.ref la, .ref lb, .int n tn, .int w_ tw_] (fun h => h.IsList la va.toArray ∧ IntsAre va na ∧ na.length ≤ 1000 ∧ h.IsList lb vb.toArray ∧ IntsAre vb nb ∧ nb.length ≤ 1000 ∧ 0 ≤ w_ ∧ w_ ≤ 64 ∧ 0 ≤ n ∧ n ≤ 1000 ∧ SmP na) (fun h₀ L m news s Q => RetL h₀ L m news s Q (lowSchoolF na nb n w_)) := by
  k_with_none
  w_top off
  k_with "nums" => with_reducible first | exact kmk_all (by k_dflt l_ints) | exact kmk_from (by k_dflt l_ints) (by k_dflt kmk_sign) | exact kmk_upto (by k_dflt l_ints) (by k_dflt kmk_sign) | exact kmk_run (by k_dflt l_ints) (by k_dflt kmk_sign) (by k_dflt kmk_sign)
  k_with "len" => with_reducible first | exact List.length_drop .. | exact (List.length_take ..).trans (congrArg _ (List.length_drop ..)) | exact List.length_take ..
  k_with "omega" => k_whole; first | (with_reducible first | assumption | decide | exact And.left (by assumption) | exact And.right (by assumption) | exact room_ok (by assumption) (by with_unfolding_all rfl) | exact Nat.ne_of_lt (by assumption) | exact Nat.ne_of_gt (by assumption) | exact Nat.ne_of_gt (And.left (by assumption)) | exact Nat.ne_of_gt (And.right (by assumption)) | exact len_lt62 (by assumption) | exact nn_off (by assumption) | exact Int.natCast_nonneg _ | exact Int.add_nonneg (Int.natCast_nonneg _) (Int.natCast_nonneg _) | exact neg_off (by assumption) (by decide) | exact z_off (by assumption) | exact le_z (by decide) (by assumption) | exact lt_z (by decide) (by assumption) | exact le64 (by assumption) (by decide) | exact lt64 (by assumption) (by decide) | exact le1000 (by assumption) (by decide) | exact lt1000 (by assumption) (by decide) | exact le12 (by assumption) (by decide) | exact lt12 (by assumption) (by decide) | exact le900 (by assumption) (by decide) | exact lt900 (by assumption) (by decide) | exact nle1000 (by assumption) (by decide) | exact ne_z (by assumption) | exact Nat.ne_of_gt (And.left (And.right (by assumption))) | exact Nat.ne_of_gt (And.left (And.right (And.right (by assumption)))) | exact And.left (And.right (by assumption))) | (k_dflt lia)
  unfold Says
  k_fill
  intro dp un gd cn cs a ccd cl outer A₀ base h₀ L m news s Q E B F X N T hk hdp hu hpre hret
  obtain ⟨hla, hia, hfa, hlb, hib, hfb, hpre⟩ := hpre
  have hpq := hpre
  obtain ⟨_, _, _, _, _⟩ := hpq
  refine wpAny_call ?_
  k_dflt (refine' enter2 ?k1 ?k2 ?k3 ?k5 ?kA ?kF ?kK ?k6 ?k7 ?k8 ?k9 ?kB ?_ ?c2 ?c3 ?c4 ?c5; (case kA => exact rfl); (case kF => exact rfl); (case kK => assumption); (case k1 => k_asm); (case k2 => k_asm); (case k3 => k_asm); (case k5 => k_asm); (case k6 => k_is); (case k7 => k_is); (case k8 => ktr_room); (case k9 => exact BindsTo.of_eq rfl); (case c5 => decide); (case kB => exact locs rfl); (case c2 => exact rfl); (case c3 => exact rfl); (case c4 => exact rfl); k_whole)
  intro Q' E' hQ L' h' hP' F' N' B' X' T'
  have ret := retL_of (L' := L') rfl hret F N hQ
  clear hret hQ B X T
  (try dsimp only)
  (try k_fold)
  k_with "call ref" => (k_here; (with_reducible show wpAny _ _ (call (Value.ref 58) [Value.ref _]) _ _ _); k_dflt (refine normal_says _ _ _ _ _ _ _ _ _ _ _ _ _ _ _ _ _ _ _ _ _ _ _ _ _ (by k_asm) (by k_asm) (by k_asm) (by k_asm) (by k_asm) (by first | exact rfl | assumption) (by ktr_room) (by ktr_units) (by ((try dsimp only); (refine' ⟨?_, ?_, ?_⟩; (case _ => kmk_list); (case _ => first | l_ints | exact IntsAre.nil | exact IntsAre.cons _ _ IntsAre.nil); (case _ => first | with_reducible assumption | omega | assumption |  ((try simp only [List.length_take, List.length_drop, List.length_append, List.length_cons, List.length_nil]); omega) | (simp only [List.length_map, rangeKs_length]; omega) | (simp only [List.length_map, rangeKs_length, List.length_cons, List.length_nil] at *; omega))))) ?_); intro D9 vs9 c9 h9 tk9 F9 N9 ne9 i9; (have q9 := len_normal_i i9); (try dsimp only); (try k_sweep); (try k_fold))
  k_with "binaryOp Mult int int" => ((rename SmP _ => hsm9); with_reducible refine mul_int ?_ (mul_okL hsm9 _ _))
  have hsm := hpre.2.2.2.2
  k_with "pyIter ref" => k_of "at" => k_state (fun pre found => found.length = n.toNat ∧ found = lowSchoolSt na nb n.toNat (2 ^ w_.toNat) pre.length) "found"
  k_with "pyIter ref" => k_of "spot" => k_state_given ["found!", "at"] (fun f0 a_ pre found carry => found.length = f0.length ∧ found = (rowSt f0 a_.toNat (na.getD a_.toNat 0) nb (2 ^ w_.toNat) pre.length).1 ∧ carry = (rowSt f0 a_.toNat (na.getD a_.toNat 0) nb (2 ^ w_.toNat) pre.length).2) "found" "carry"
  k_with "state" => first | exact ls_start | exact row_start | exact row_turn (by assumption) (by assumption) (by assumption) rfl rfl (by omega) (by omega) | exact ls_turn1 (by assumption) (by assumption) (by assumption) (by assumption) (by assumption) (by assumption) rfl (by assumption) | exact ls_turn2 (by assumption) (by assumption) (by assumption) (by assumption) (by assumption) rfl rfl (by assumption) (by assumption)
  k_steps
  all_goals ((try dsimp only); refine' ret _ _ _ _ _ _ _ _ ?eF ?eN ?eM ?eI ?eE; (case eF => assumption); (case eN => assumption); (case eM => k_mem); (case eI => first | exact ints_concat (by assumption) | l_ints); (case eE => exact ls_end (by assumption) rfl))

set_option maxHeartbeats 8000000 in
theorem mul_school_says (w : World) (mean : ExcName → Option Value) (mg mb : Str → Option Value) (la : Addr) (va : List Value) (na : List Int) (lb : Addr) (vb : List Value) (nb : List Int) (w_ : Int) (tw_ : Tok) :
    Says w mean mg mb 154 2 16 [.ref la, .ref lb, .int w_ tw_] (fun h => h.IsList la va.toArray ∧ IntsAre va na ∧ na.length ≤ 1000 ∧ h.IsList lb vb.toArray ∧ IntsAre vb nb ∧ nb.length ≤ 1000 ∧ 0 ≤ w_ ∧ w_ ≤ 64 ∧ na.length + nb.length ≤ 1000 ∧ SmP na) (fun h₀ L m news s Q => RetL h₀ L m news s Q (mulF na nb w_)) := by
  k_with_none
  w_top off
  k_with "nums" => with_reducible first | exact kmk_all (by k_dflt l_ints) | exact kmk_from (by k_dflt l_ints) (by k_dflt kmk_sign) | exact kmk_upto (by k_dflt l_ints) (by k_dflt kmk_sign) | exact kmk_run (by k_dflt l_ints) (by k_dflt kmk_sign) (by k_dflt kmk_sign)
  k_with "len" => with_reducible first | exact List.length_drop .. | exact (List.length_take ..).trans (congrArg _ (List.length_drop ..)) | exact List.length_take ..
  k_with "omega" => k_whole; first | (with_reducible first | assumption | decide | exact And.left (by assumption) | exact And.right (by assumption) | exact room_ok (by assumption) (by with_unfolding_all rfl) | exact Nat.ne_of_lt (by assumption) | exact Nat.ne_of_gt (by assumption) | exact Nat.ne_of_gt (And.left (by assumption)) | exact Nat.ne_of_gt (And.right (by assumption)) | exact len_lt62 (by assumption) | exact nn_off (by assumption) | exact Int.natCast_nonneg _ | exact Int.add_nonneg (Int.natCast_nonneg _) (Int.natCast_nonneg _) | exact neg_off (by assumption) (by decide) | exact z_off (by assumption) | exact le_z (by decide) (by assumption) | exact lt_z (by decide) (by assumption) | exact le64 (by assumption) (by decide) | exact lt64 (by assumption) (by decide) | exact le1000 (by assumption) (by decide) | exact lt1000 (by assumption) (by decide) | exact le12 (by assumption) (by decide) | exact lt12 (by assumption) (by decide) | exact le900 (by assumption) (by decide) | exact lt900 (by assumption) (by decide) | exact nle1000 (by assumption) (by decide) | exact ne_z (by assumption) | exact Nat.ne_of_gt (And.left (And.right (by assumption))) | exact Nat.ne_of_gt (And.left (And.right (And.right (by assumption)))) | exact And.left (And.right (by assumption))) | (k_dflt lia)
  unfold Says
  k_fill
  intro dp un gd cn cs a ccd cl outer A₀ base h₀ L m news s Q E B F X N T hk hdp hu hpre hret
  obtain ⟨hla, hia, hfa, hlb, hib, hfb, hpre⟩ := hpre
  have hpq := hpre
  obtain ⟨_, _, _, _⟩ := hpq
  refine wpAny_call ?_
  k_dflt (refine' enter2 ?k1 ?k2 ?k3 ?k5 ?kA ?kF ?kK ?k6 ?k7 ?k8 ?k9 ?kB ?_ ?c2 ?c3 ?c4 ?c5; (case kA => exact rfl); (case kF => exact rfl); (case kK => assumption); (case k1 => k_asm); (case k2 => k_asm); (case k3 => k_asm); (case k5 => k_asm); (case k6 => k_is); (case k7 => k_is); (case k8 => ktr_room); (case k9 => exact BindsTo.of_eq rfl); (case c5 => decide); (case kB => exact locs rfl); (case c2 => exact rfl); (case c3 => exact rfl); (case c4 => exact rfl); k_whole)
  intro Q' E' hQ L' h' hP' F' N' B' X' T'
  have ret := retL_of (L' := L') rfl hret F N hQ
  clear hret hQ B X T
  (try dsimp only)
  (try k_fold)
  k_with "call ref" => (k_here; (with_reducible show wpAny _ _ (call (Value.ref 58) [Value.ref _]) _ _ _); k_dflt (refine normal_says _ _ _ _ _ _ _ _ _ _ _ _ _ _ _ _ _ _ _ _ _ _ _ _ _ (by k_asm) (by k_asm) (by k_asm) (by k_asm) (by k_asm) (by first | exact rfl | assumption) (by ktr_room) (by ktr_units) (by ((try dsimp only); (refine' ⟨?_, ?_, ?_⟩; (case _ => kmk_list); (case _ => first | l_ints | exact IntsAre.nil | exact IntsAre.cons _ _ IntsAre.nil); (case _ => first | with_reducible assumption | omega | assumption |  ((try simp only [List.length_take, List.length_drop, List.length_append, List.length_cons, List.length_nil]); omega) | (simp only [List.length_map, rangeKs_length]; omega) | (simp only [List.length_map, rangeKs_length, List.length_cons, List.length_nil] at *; omega))))) ?_); intro D9 vs9 c9 h9 tk9 F9 N9 ne9 i9; (have q9 := len_normal_i i9); (try dsimp only); (try k_sweep); (try k_fold))
  have hsm := hpre.2.2.2
  k_with "pyIter ref" => ((with_reducible show wpAny _ _ _ (fun it s₂ => PairAt3 _ _ _ _ _ (Str.ofString "at") _ _ _ _ it s₂) _ _); (rename PairSrcL _ _ _ _ _ _ _ _ _ _ _ _ => lS'); (with_unfolding_all refine' pairs_list (pre₀ := [_]) [Str.ofString "at", Str.ofString "carry", Str.ofString "spot", Str.ofString "other"] (fun pre ns => ns.length = na.length + nb.length ∧ ns = mulSt na nb (2 ^ w_.toNat) pre.length) (PairSrcL.at lS' _ rfl) ?ki ?kp ?_ ?_); (case ki => l_ints); (case kp => exact mul_start); rotate_left; (intro vsE nsE cnE uE hE tkE fE pE FE NE; (obtain ⟨pE1, pE2⟩ := pE); (try simp only [List.nil_append, List.cons_append] at NE); (try k_fold)); rotate_left; (intro vsO nsO cnO preO postO aO tO taO uO hO tkO ownO eO offO fO pO FO NO; (obtain ⟨pO1, pO2⟩ := pO); (have lO := pre_lt eO); (have gO := pre_get eO); (have hokO := mul_okM hsm _ gO); (try simp only [List.nil_append, List.cons_append] at NO); (have kMark := kstMark); (try k_fold)))
  k_with "pyIter ref" => ((with_reducible show wpAny _ _ _ (fun it s₂ => PairAt3 _ _ _ _ _ (Str.ofString "spot") _ _ _ _ it s₂) _ _); (rename PairSrcL _ _ _ _ _ _ _ _ _ _ _ _ => lS'); (with_unfolding_all refine' pairs_list1 (pre₀ := [_]) (Str.ofString "carry") [Str.ofString "spot"] (fun pre c ns => ns.length = nsO.length ∧ ns = (rowSt nsO preO.length aO nb (2 ^ w_.toNat) pre.length).1 ∧ c = (rowSt nsO preO.length aO nb (2 ^ w_.toNat) pre.length).2) (PairSrcL.at lS' _ rfl) ?ki ?ky ?kp ?_ ?_); (case ki => l_ints); (case ky => rfl); (case kp => exact row_start); rotate_left; (intro xJ txJ vsJ nsJ cnJ uJ hJ tkJ fJ pJ FJ NJ; (obtain ⟨pJ1, pJ2, pJ3⟩ := pJ); (try simp only [List.nil_append, List.cons_append] at NJ); (try k_fold)); rotate_left; (intro xI txI vsI nsI cnI preI postI aI tI taI uI hI tkI ownI eI offI fI pI FI NI; (obtain ⟨pI1, pI2, pI3⟩ := pI); (have lI := pre_lt eI); (have gI := pre_get eI); (try simp only [List.nil_append, List.cons_append] at NI); (have kMark := kstMark); (try k_fold)))
  k_with "binaryOp Mult int int" => refine mul_int ?_ (hokO _)
  k_with "state" => first | exact mrow_turn pI1 pI2 pI3 gI | exact mul_turn pJ1 pJ2 pJ3 pO1 pO2 gO
  k_with "InvEndN" => ((rename News _ _ _ _ => nE'); (first | refine' kst_end (_, _, _, _, _) ?zF nE' ?zn ?zo ?za ?zf ?zk ?zr ?zp | refine' kst_end (_, _, _) ?zF nE' ?zn ?zo ?za ?zf ?zk ?zr ?zp); (case zF => assumption); (case zn => ((try simp only [List.cons_append, List.nil_append]); kst_in)); (case zo => (intro p9 h9; kst_mem)); (case zk => kst_all); (case zf => first | assumption | kst_facts); (case za => rfl); (case zr => first | kst_same | (intro z h1 h2 h3; (simp only [List.forall_mem_cons, List.not_mem_nil, false_implies, implies_true, and_true, ne_eq] at h2); (simp only [List.contains_cons, List.contains_nil, Bool.or_false, Bool.or_eq_false_iff, beq_eq_false_iff_ne, ne_eq] at h3); (simp [h1, h2, h3, kstB]; done)) | (intro z h1 h2 h3; (simp only [List.contains_cons, List.contains_nil, Bool.or_false, Bool.or_eq_false_iff, beq_eq_false_iff_ne, ne_eq] at h3); (simp [h1, h3, kstB]; done))); (case zp => kst_p))
  k_steps
  all_goals first
    | ((try dsimp only); refine' ret _ _ _ _ _ _ _ _ ?eF ?eN ?eM ?eI ?eE; (case eF => assumption); (case eN => assumption); (case eM => k_mem); (case eI => first | exact ints_concat (by assumption) | l_ints); (case eE => exact mul_end (by assumption)))

set_option maxHeartbeats 8000000 in
theorem lp_base_says (w : World) (mean : ExcName → Option Value) (mg mb : Str → Option Value) (la : Addr) (va : List Value) (na : List Int) (lb : Addr) (vb : List Value) (nb : List Int) (n : Int) (tn : Tok) (w_ : Int) (tw_ : Tok) (tleast : Tok) :
    Says w mean mg mb 121 3 24 [.ref la, .ref lb, .int n tn, .int w_ tw_, .int 4 tleast, .ref 154] (fun h => h.IsList la va.toArray ∧ IntsAre va na ∧ na.length ≤ 1000 ∧ h.IsList lb vb.toArray ∧ IntsAre vb nb ∧ nb.length ≤ 1000 ∧ 0 ≤ w_ ∧ w_ ≤ 64 ∧ 0 ≤ n ∧ n < 4 ∧ SmP na) (fun h₀ L m news s Q => RetL h₀ L m news s Q (baseF na nb n w_)) := by
  k_with_none
  w_top off
  k_with "nums" => with_reducible first | exact kmk_all (by k_dflt l_ints) | exact kmk_from (by k_dflt l_ints) (by k_dflt kmk_sign) | exact kmk_upto (by k_dflt l_ints) (by k_dflt kmk_sign) | exact kmk_run (by k_dflt l_ints) (by k_dflt kmk_sign) (by k_dflt kmk_sign)
  k_with "len" => with_reducible first | exact List.length_drop .. | exact (List.length_take ..).trans (congrArg _ (List.length_drop ..)) | exact List.length_take ..
  k_with "omega" => k_whole; first | (with_reducible first | assumption | decide | exact And.left (by assumption) | exact And.right (by assumption) | exact room_ok (by assumption) (by with_unfolding_all rfl) | exact Nat.ne_of_lt (by assumption) | exact Nat.ne_of_gt (by assumption) | exact Nat.ne_of_gt (And.left (by assumption)) | exact Nat.ne_of_gt (And.right (by assumption)) | exact len_lt62 (by assumption) | exact nn_off (by assumption) | exact Int.natCast_nonneg _ | exact Int.add_nonneg (Int.natCast_nonneg _) (Int.natCast_nonneg _) | exact neg_off (by assumption) (by decide) | exact z_off (by assumption) | exact le_z (by decide) (by assumption) | exact lt_z (by decide) (by assumption) | exact le64 (by assumption) (by decide) | exact lt64 (by assumption) (by decide) | exact le1000 (by assumption) (by decide) | exact lt1000 (by assumption) (by decide) | exact le12 (by assumption) (by decide) | exact lt12 (by assumption) (by decide) | exact le900 (by assumption) (by decide) | exact lt900 (by assumption) (by decide) | exact nle1000 (by assumption) (by decide) | exact ne_z (by assumption) | exact Nat.ne_of_gt (And.left (And.right (by assumption))) | exact Nat.ne_of_gt (And.left (And.right (And.right (by assumption)))) | exact And.left (And.right (by assumption))) | (k_dflt lia)
  unfold Says
  k_fill
  intro dp un gd cn cs a ccd cl outer A₀ base h₀ L m news s Q E B F X N T hk hdp hu hpre hret
  obtain ⟨hla, hia, hfa, hlb, hib, hfb, hpre⟩ := hpre
  have hpq := hpre
  obtain ⟨_, _, _, _, _⟩ := hpq
  refine wpAny_call ?_
  k_dflt (refine' enter2 ?k1 ?k2 ?k3 ?k5 ?kA ?kF ?kK ?k6 ?k7 ?k8 ?k9 ?kB ?_ ?c2 ?c3 ?c4 ?c5; (case kA => exact rfl); (case kF => exact rfl); (case kK => assumption); (case k1 => k_asm); (case k2 => k_asm); (case k3 => k_asm); (case k5 => k_asm); (case k6 => k_is); (case k7 => k_is); (case k8 => ktr_room); (case k9 => exact BindsTo.of_eq rfl); (case c5 => decide); (case kB => exact locs rfl); (case c2 => exact rfl); (case c3 => exact rfl); (case c4 => exact rfl); k_whole)
  intro Q' E' hQ L' h' hP' F' N' B' X' T'
  have ret := retL_of (L' := L') rfl hret F N hQ
  clear hret hQ B X T
  (try dsimp only)
  (try k_fold)
  k_with "call ref" => (k_here; (with_reducible show wpAny _ _ (call (Value.ref 58) [Value.ref _]) _ _ _); k_dflt (refine normal_says _ _ _ _ _ _ _ _ _ _ _ _ _ _ _ _ _ _ _ _ _ _ _ _ _ (by k_asm) (by k_asm) (by k_asm) (by k_asm) (by k_asm) (by first | exact rfl | assumption) (by ktr_room) (by ktr_units) (by ((try dsimp only); (refine' ⟨?_, ?_, ?_⟩; (case _ => kmk_list); (case _ => first | l_ints | exact IntsAre.nil | exact IntsAre.cons _ _ IntsAre.nil); (case _ => first | with_reducible assumption | omega | assumption |  ((try simp only [List.length_take, List.length_drop, List.length_append, List.length_cons, List.length_nil]); omega) | (simp only [List.length_map, rangeKs_length]; omega) | (simp only [List.length_map, rangeKs_length, List.length_cons, List.length_nil] at *; omega))))) ?_); intro D9 vs9 c9 h9 tk9 F9 N9 ne9 i9; (have q9 := len_normal_i i9); (try dsimp only); (try k_sweep); (try k_fold))
  k_with "call ref" => (k_here; (with_reducible show wpAny _ _ (call (Value.ref 107) [Value.ref _, Value.ref _, Value.int _ _, Value.int _ _]) _ _ _); k_dflt (refine low_school_says _ _ _ _ _ _ _ _ _ _ _ _ _ _ _ _ _ _ _ _ _ _ _ _ _ _ _ _ _ _ _ _ (by k_asm) (by k_asm) (by k_asm) (by k_asm) (by k_asm) (by first | exact rfl | assumption) (by ktr_room) (by ktr_units) (by ((try dsimp only); (refine' ⟨?_, ?_, ?_, ?_, ?_, ?_, ?_⟩; (case _ => kmk_list); (case _ => first | l_ints | exact IntsAre.nil | exact IntsAre.cons _ _ IntsAre.nil); (case _ => first | with_reducible assumption | omega | assumption |  ((try simp only [List.length_take, List.length_drop, List.length_append, List.length_cons, List.length_nil]); omega) | (simp only [List.length_map, rangeKs_length]; omega) | (simp only [List.length_map, rangeKs_length, List.length_cons, List.length_nil] at *; omega)); (case _ => kmk_list); (case _ => first | l_ints | exact IntsAre.nil | exact IntsAre.cons _ _ IntsAre.nil); (case _ => first | with_reducible assumption | omega | assumption |  ((try simp only [List.length_take, List.length_drop, List.length_append, List.length_cons, List.length_nil]); omega) | (simp only [List.length_map, rangeKs_length]; omega) | (simp only [List.length_map, rangeKs_length, List.length_cons, List.length_nil] at *; omega)); (case _ => ((repeat' (with_reducible refine And.intro ?_ ?_)) <;> first | with_reducible assumption | omega | (first | with_reducible assumption | omega | assumption |  ((try simp only [List.length_take, List.length_drop, List.length_append, List.length_cons, List.length_nil]); omega) | (simp only [List.length_map, rangeKs_length]; omega) | (simp only [List.length_map, rangeKs_length, List.length_cons, List.length_nil] at *; omega)) | ((repeat' (first | with_reducible assumption | apply SmP.normal | apply SmP.low | apply SmP.take | apply SmP.drop)); done)))))) ?_); intro D9 vs9 c9 h9 tk9 F9 N9 ne9 i9; (have q9 := len_low_school_i i9); (try dsimp only); (try k_sweep); (try k_fold))
  have hsm := hpre.2.2.2.2
  k_steps
  all_goals ((try dsimp only); refine' ret _ _ _ _ _ _ _ _ ?eF ?eN ?eM ?eI ?eE; (case eF => assumption); (case eN => assumption); (case eM => k_mem); (case eI => first | exact ints_concat (by assumption) | l_ints); (case eE => rfl))

set_option maxHeartbeats 8000000 in
theorem lp_top_says (w : World) (mean : ExcName → Option Value) (mg mb : Str → Option Value) (la : Addr) (va : List Value) (na : List Int) (lb : Addr) (vb : List Value) (nb : List Int) (n : Int) (tn : Tok) (w_ : Int) (tw_ : Tok) (tleast : Tok) :
    Says w mean mg mb 121 4 32 [.ref la, .ref lb, .int n tn, .int w_ tw_, .int 4 tleast, .ref 154] (fun h => h.IsList la va.toArray ∧ IntsAre va na ∧ na.length ≤ 1000 ∧ h.IsList lb vb.toArray ∧ IntsAre vb nb ∧ nb.length ≤ 1000 ∧ 0 ≤ w_ ∧ w_ ≤ 64 ∧ 4 ≤ n ∧ n ≤ 12 ∧ SmP na) (fun h₀ L m news s Q => RetL h₀ L m news s Q (lowProductF na nb n w_)) := by
  k_with_none
  w_top off
  k_with "nums" => with_reducible first | exact kmk_all (by k_dflt l_ints) | exact kmk_from (by k_dflt l_ints) (by k_dflt kmk_sign) | exact kmk_upto (by k_dflt l_ints) (by k_dflt kmk_sign) | exact kmk_run (by k_dflt l_ints) (by k_dflt kmk_sign) (by k_dflt kmk_sign)
  k_with "len" => with_reducible first | exact List.length_drop .. | exact (List.length_take ..).trans (congrArg _ (List.length_drop ..)) | exact List.length_take ..
  k_with "omega" => k_whole; first | (with_reducible first | assumption | decide | exact And.left (by assumption) | exact And.right (by assumption) | exact room_ok (by assumption) (by with_unfolding_all rfl) | exact Nat.ne_of_lt (by assumption) | exact Nat.ne_of_gt (by assumption) | exact Nat.ne_of_gt (And.left (by assumption)) | exact Nat.ne_of_gt (And.right (by assumption)) | exact len_lt62 (by assumption) | exact nn_off (by assumption) | exact Int.natCast_nonneg _ | exact Int.add_nonneg (Int.natCast_nonneg _) (Int.natCast_nonneg _) | exact neg_off (by assumption) (by decide) | exact z_off (by assumption) | exact le_z (by decide) (by assumption) | exact lt_z (by decide) (by assumption) | exact le64 (by assumption) (by decide) | exact lt64 (by assumption) (by decide) | exact le1000 (by assumption) (by decide) | exact lt1000 (by assumption) (by decide) | exact le12 (by assumption) (by decide) | exact lt12 (by assumption) (by decide) | exact le900 (by assumption) (by decide) | exact lt900 (by assumption) (by decide) | exact nle1000 (by assumption) (by decide) | exact ne_z (by assumption) | exact Nat.ne_of_gt (And.left (And.right (by assumption))) | exact Nat.ne_of_gt (And.left (And.right (And.right (by assumption)))) | exact And.left (And.right (by assumption))) | (k_dflt lia)
  unfold Says
  k_fill
  intro dp un gd cn cs a ccd cl outer A₀ base h₀ L m news s Q E B F X N T hk hdp hu hpre hret
  obtain ⟨hla, hia, hfa, hlb, hib, hfb, hpre⟩ := hpre
  have hpq := hpre
  obtain ⟨_, _, _, _, _⟩ := hpq
  refine wpAny_call ?_
  k_dflt (refine' enter2 ?k1 ?k2 ?k3 ?k5 ?kA ?kF ?kK ?k6 ?k7 ?k8 ?k9 ?kB ?_ ?c2 ?c3 ?c4 ?c5; (case kA => exact rfl); (case kF => exact rfl); (case kK => assumption); (case k1 => k_asm); (case k2 => k_asm); (case k3 => k_asm); (case k5 => k_asm); (case k6 => k_is); (case k7 => k_is); (case k8 => ktr_room); (case k9 => exact BindsTo.of_eq rfl); (case c5 => decide); (case kB => exact locs rfl); (case c2 => exact rfl); (case c3 => exact rfl); (case c4 => exact rfl); k_whole)
  intro Q' E' hQ L' h' hP' F' N' B' X' T'
  have ret := retL_of (L' := L') rfl hret F N hQ
  clear hret hQ B X T
  (try dsimp only)
  (try k_fold)
  k_with "call ref" => (k_here; (with_reducible show wpAny _ _ (call (Value.ref 58) [Value.ref _]) _ _ _); k_dflt (refine normal_says _ _ _ _ _ _ _ _ _ _ _ _ _ _ _ _ _ _ _ _ _ _ _ _ _ (by k_asm) (by k_asm) (by k_asm) (by k_asm) (by k_asm) (by first | exact rfl | assumption) (by ktr_room) (by ktr_units) (by ((try dsimp only); (refine' ⟨?_, ?_, ?_⟩; (case _ => kmk_list); (case _ => first | l_ints | exact IntsAre.nil | exact IntsAre.cons _ _ IntsAre.nil); (case _ => first | with_reducible assumption | omega | assumption |  ((try simp only [List.length_take, List.length_drop, List.length_append, List.length_cons, List.length_nil]); omega) | (simp only [List.length_map, rangeKs_length]; omega) | (simp only [List.length_map, rangeKs_length, List.length_cons, List.length_nil] at *; omega))))) ?_); intro D9 vs9 c9 h9 tk9 F9 N9 ne9 i9; (have q9 := len_normal_i i9); (try dsimp only); (try k_sweep); (try k_fold))
  k_with "call ref" => (k_here; (with_reducible show wpAny _ _ (call (Value.ref 121) [Value.ref _, Value.ref _, Value.int _ _, Value.int _ _, Value.int 4 _, Value.ref 154]) _ _ _); k_dflt (refine lp_base_says _ _ _ _ _ _ _ _ _ _ _ _ _ _ _ _ _ _ _ _ _ _ _ _ _ _ _ _ _ _ _ _ _ (by k_asm) (by k_asm) (by k_asm) (by k_asm) (by k_asm) (by first | exact rfl | assumption) (by ktr_room) (by ktr_units) (by ((try dsimp only); (refine' ⟨?_, ?_, ?_, ?_, ?_, ?_, ?_⟩; (case _ => kmk_list); (case _ => first | l_ints | exact IntsAre.nil | exact IntsAre.cons _ _ IntsAre.nil); (case _ => first | with_reducible assumption | omega | assumption |  ((try simp only [List.length_take, List.length_drop, List.length_append, List.length_cons, List.length_nil]); omega) | (simp only [List.length_map, rangeKs_length]; omega) | (simp only [List.length_map, rangeKs_length, List.length_cons, List.length_nil] at *; omega)); (case _ => kmk_list); (case _ => first | l_ints | exact IntsAre.nil | exact IntsAre.cons _ _ IntsAre.nil); (case _ => first | with_reducible assumption | omega | assumption |  ((try simp only [List.length_take, List.length_drop, List.length_append, List.length_cons, List.length_nil]); omega) | (simp only [List.length_map, rangeKs_length]; omega) | (simp only [List.length_map, rangeKs_length, List.length_cons, List.length_nil] at *; omega)); (case _ => ((repeat' (with_reducible refine And.intro ?_ ?_)) <;> first | with_reducible assumption | omega | (first | with_reducible assumption | omega | assumption |  ((try simp only [List.length_take, List.length_drop, List.length_append, List.length_cons, List.length_nil]); omega) | (simp only [List.length_map, rangeKs_length]; omega) | (simp only [List.length_map, rangeKs_length, List.length_cons, List.length_nil] at *; omega)) | ((repeat' (first | with_reducible assumption | apply SmP.normal | apply SmP.low | apply SmP.take | apply SmP.drop)); done)))))) ?_); intro D9 vs9 c9 h9 tk9 F9 N9 ne9 i9; (have q9 := len_base_i i9); (try dsimp only); (try k_sweep); (try k_fold))
  k_with "call ref" => (k_here; (with_reducible show wpAny _ _ (call (Value.ref 154) [Value.ref _, Value.ref _, Value.int _ _]) _ _ _); k_dflt (refine mul_school_says _ _ _ _ _ _ _ _ _ _ _ _ _ _ _ _ _ _ _ _ _ _ _ _ _ _ _ _ _ _ (by k_asm) (by k_asm) (by k_asm) (by k_asm) (by k_asm) (by first | exact rfl | assumption) (by ktr_room) (by ktr_units) (by ((try dsimp only); (refine' ⟨?_, ?_, ?_, ?_, ?_, ?_, ?_⟩; (case _ => kmk_list); (case _ => first | l_ints | exact IntsAre.nil | exact IntsAre.cons _ _ IntsAre.nil); (case _ => first | with_reducible assumption | omega | assumption |  ((try simp only [List.length_take, List.length_drop, List.length_append, List.length_cons, List.length_nil]); omega) | (simp only [List.length_map, rangeKs_length]; omega) | (simp only [List.length_map, rangeKs_length, List.length_cons, List.length_nil] at *; omega)); (case _ => kmk_list); (case _ => first | l_ints | exact IntsAre.nil | exact IntsAre.cons _ _ IntsAre.nil); (case _ => first | with_reducible assumption | omega | assumption |  ((try simp only [List.length_take, List.length_drop, List.length_append, List.length_cons, List.length_nil]); omega) | (simp only [List.length_map, rangeKs_length]; omega) | (simp only [List.length_map, rangeKs_length, List.length_cons, List.length_nil] at *; omega)); (case _ => ((repeat' (with_reducible refine And.intro ?_ ?_)) <;> first | with_reducible assumption | omega | (first | with_reducible assumption | omega | assumption |  ((try simp only [List.length_take, List.length_drop, List.length_append, List.length_cons, List.length_nil]); omega) | (simp only [List.length_map, rangeKs_length]; omega) | (simp only [List.length_map, rangeKs_length, List.length_cons, List.length_nil] at *; omega)) | ((repeat' (first | with_reducible assumption | apply SmP.normal | apply SmP.low | apply SmP.take | apply SmP.drop)); done)))))) ?_); intro D9 vs9 c9 h9 tk9 F9 N9 ne9 i9; (have q9 := len_mul_i i9); (try dsimp only); (try k_sweep); (try k_fold))
  k_with "call ref" => (k_here; (with_reducible show wpAny _ _ (call (Value.ref 72) [Value.ref _, Value.ref _, Value.int _ _]) _ _ _); k_dflt (refine add_says _ _ _ _ _ _ _ _ _ _ _ _ _ _ _ _ _ _ _ _ _ _ _ _ _ _ _ _ _ _ (by k_asm) (by k_asm) (by k_asm) (by k_asm) (by k_asm) (by first | exact rfl | assumption) (by ktr_room) (by ktr_units) (by ((try dsimp only); (refine' ⟨?_, ?_, ?_, ?_, ?_, ?_, ?_⟩; (case _ => kmk_list); (case _ => first | l_ints | exact IntsAre.nil | exact IntsAre.cons _ _ IntsAre.nil); (case _ => first | with_reducible assumption | omega | assumption |  ((try simp only [List.length_take, List.length_drop, List.length_append, List.length_cons, List.length_nil]); omega) | (simp only [List.length_map, rangeKs_length]; omega) | (simp only [List.length_map, rangeKs_length, List.length_cons, List.length_nil] at *; omega)); (case _ => kmk_list); (case _ => first | l_ints | exact IntsAre.nil | exact IntsAre.cons _ _ IntsAre.nil); (case _ => first | with_reducible assumption | omega | assumption |  ((try simp only [List.length_take, List.length_drop, List.length_append, List.length_cons, List.length_nil]); omega) | (simp only [List.length_map, rangeKs_length]; omega) | (simp only [List.length_map, rangeKs_length, List.length_cons, List.length_nil] at *; omega)); (case _ => ((repeat' (with_reducible refine And.intro ?_ ?_)) <;> first | with_reducible assumption | omega | (first | with_reducible assumption | omega | assumption |  ((try simp only [List.length_take, List.length_drop, List.length_append, List.length_cons, List.length_nil]); omega) | (simp only [List.length_map, rangeKs_length]; omega) | (simp only [List.length_map, rangeKs_length, List.length_cons, List.length_nil] at *; omega)) | ((repeat' (first | with_reducible assumption | apply SmP.normal | apply SmP.low | apply SmP.take | apply SmP.drop)); done)))))) ?_); intro D9 vs9 c9 h9 tk9 F9 N9 ne9 i9; (have q9 := len_add_i i9); (try dsimp only); (try k_sweep); (try k_fold))
  k_with "call ref" => (k_here; (with_reducible show wpAny _ _ (call (Value.ref 93) [Value.ref _, Value.ref _, Value.int _ _, Value.int _ _]) _ _ _); k_dflt (refine add_at_says _ _ _ _ _ _ _ _ _ _ _ _ _ _ _ _ _ _ _ _ _ _ _ _ _ _ _ _ _ _ _ _ (by k_asm) (by k_asm) (by k_asm) (by k_asm) (by k_asm) (by first | exact rfl | assumption) (by ktr_room) (by ktr_units) (by ((try dsimp only); (refine' ⟨?_, ?_, ?_, ?_, ?_, ?_, ?_⟩; (case _ => kmk_list); (case _ => first | l_ints | exact IntsAre.nil | exact IntsAre.cons _ _ IntsAre.nil); (case _ => first | with_reducible assumption | omega | assumption |  ((try simp only [List.length_take, List.length_drop, List.length_append, List.length_cons, List.length_nil]); omega) | (simp only [List.length_map, rangeKs_length]; omega) | (simp only [List.length_map, rangeKs_length, List.length_cons, List.length_nil] at *; omega)); (case _ => kmk_list); (case _ => first | l_ints | exact IntsAre.nil | exact IntsAre.cons _ _ IntsAre.nil); (case _ => first | with_reducible assumption | omega | assumption |  ((try simp only [List.length_take, List.length_drop, List.length_append, List.length_cons, List.length_nil]); omega) | (simp only [List.length_map, rangeKs_length]; omega) | (simp only [List.length_map, rangeKs_length, List.length_cons, List.length_nil] at *; omega)); (case _ => ((repeat' (with_reducible refine And.intro ?_ ?_)) <;> first | with_reducible assumption | omega | (first | with_reducible assumption | omega | assumption |  ((try simp only [List.length_take, List.length_drop, List.length_append, List.length_cons, List.length_nil]); omega) | (simp only [List.length_map, rangeKs_length]; omega) | (simp only [List.length_map, rangeKs_length, List.length_cons, List.length_nil] at *; omega)) | ((repeat' (first | with_reducible assumption | apply SmP.normal | apply SmP.low | apply SmP.take | apply SmP.drop)); done)))))) ?_); intro D9 vs9 c9 h9 tk9 F9 N9 ne9 i9; (have q9 := len_add_at_i i9); (try dsimp only); (try k_sweep); (try k_fold))
  k_with "call ref" => (k_here; (with_reducible show wpAny _ _ (call (Value.ref 114) [Value.int _ _]) _ _ _); k_dflt (refine cut_for_says _ _ _ _ _ _ _ _ _ _ _ _ _ _ _ _ _ _ _ _ _ _ _ _ (by k_asm) (by k_asm) (by k_asm) (by k_asm) (by k_asm) (by first | exact rfl | assumption) (by ktr_room) (by ktr_units) (by ((try dsimp only); ((repeat' (with_reducible refine And.intro ?_ ?_)) <;> first | with_reducible assumption | omega | (first | with_reducible assumption | omega | assumption |  ((try simp only [List.length_take, List.length_drop, List.length_append, List.length_cons, List.length_nil]); omega) | (simp only [List.length_map, rangeKs_length]; omega) | (simp only [List.length_map, rangeKs_length, List.length_cons, List.length_nil] at *; omega)) | ((repeat' (first | with_reducible assumption | apply SmP.normal | apply SmP.low | apply SmP.take | apply SmP.drop)); done)))) ?_); intro t9 h9 tk9 F9 N9; (try dsimp only); (try k_sweep); (try k_fold))
  have hsm := hpre.2.2.2.2
  obtain ⟨hc0, hc1, hc2, hc3⟩ := cut_bounds hpre.2.2.1 hpre.2.2.2.1
  k_steps
  all_goals ((try dsimp only); refine' ret _ _ _ _ _ _ _ _ ?eF ?eN ?eM ?eI ?eE; (case eF => assumption); (case eN => assumption); (case eM => k_mem); (case eI => first | exact ints_concat (by assumption) | l_ints); (case eE => (unfold lowProductF; rw [if_neg (by omega)]; rfl)))

set_option maxHeartbeats 8000000 in
theorem inverse_limb_says (w : World) (mean : ExcName → Option Value) (mg mb : Str → Option Value) (d : Int) (td : Tok) (w_ : Int) (tw_ : Tok) :
    Says w mean mg mb 128 1 8 [.int d td, .int w_ tw_] (fun h => 0 < w_ ∧ w_ ≤ 64 ∧ d.fmod 2 = 1) (fun h₀ L m news s Q => RetI h₀ L m news s Q (invLimbF d w_)) := by
  k_with_none
  w_top off
  k_with "nums" => with_reducible first | exact kmk_all (by k_dflt l_ints) | exact kmk_from (by k_dflt l_ints) (by k_dflt kmk_sign) | exact kmk_upto (by k_dflt l_ints) (by k_dflt kmk_sign) | exact kmk_run (by k_dflt l_ints) (by k_dflt kmk_sign) (by k_dflt kmk_sign)
  k_with "len" => with_reducible first | exact List.length_drop .. | exact (List.length_take ..).trans (congrArg _ (List.length_drop ..)) | exact List.length_take ..
  k_with "omega" => k_whole; first | (with_reducible first | assumption | decide | exact And.left (by assumption) | exact And.right (by assumption) | exact room_ok (by assumption) (by with_unfolding_all rfl) | exact Nat.ne_of_lt (by assumption) | exact Nat.ne_of_gt (by assumption) | exact Nat.ne_of_gt (And.left (by assumption)) | exact Nat.ne_of_gt (And.right (by assumption)) | exact len_lt62 (by assumption) | exact nn_off (by assumption) | exact Int.natCast_nonneg _ | exact Int.add_nonneg (Int.natCast_nonneg _) (Int.natCast_nonneg _) | exact neg_off (by assumption) (by decide) | exact z_off (by assumption) | exact le_z (by decide) (by assumption) | exact lt_z (by decide) (by assumption) | exact le64 (by assumption) (by decide) | exact lt64 (by assumption) (by decide) | exact le1000 (by assumption) (by decide) | exact lt1000 (by assumption) (by decide) | exact le12 (by assumption) (by decide) | exact lt12 (by assumption) (by decide) | exact le900 (by assumption) (by decide) | exact lt900 (by assumption) (by decide) | exact nle1000 (by assumption) (by decide) | exact ne_z (by assumption) | exact Nat.ne_of_gt (And.left (And.right (by assumption))) | exact Nat.ne_of_gt (And.left (And.right (And.right (by assumption)))) | exact And.left (And.right (by assumption))) | (k_dflt lia)
  unfold Says
  k_fill
  intro dp un gd cn cs a ccd cl outer A₀ base h₀ L m news s Q E B F X N T hk hdp hu hpre hret
  have hpre := hpre
  have hpq := hpre
  obtain ⟨_, _, _⟩ := hpq
  refine wpAny_call ?_
  k_dflt (refine' enter2 ?k1 ?k2 ?k3 ?k5 ?kA ?kF ?kK ?k6 ?k7 ?k8 ?k9 ?kB ?_ ?c2 ?c3 ?c4 ?c5; (case kA => exact rfl); (case kF => exact rfl); (case kK => assumption); (case k1 => k_asm); (case k2 => k_asm); (case k3 => k_asm); (case k5 => k_asm); (case k6 => k_is); (case k7 => k_is); (case k8 => ktr_room); (case k9 => exact BindsTo.of_eq rfl); (case c5 => decide); (case kB => exact locs rfl); (case c2 => exact rfl); (case c3 => exact rfl); (case c4 => exact rfl); k_whole)
  intro Q' E' hQ L' h' hP' F' N' B' X' T'
  have ret := retI_of (L' := L') rfl hret F N hQ
  clear hret hQ B X T
  (try dsimp only)
  (try k_fold)
  have hodd := hpre.2.2
  k_with "exec While Compare cons nil" => k_while (fun _ found sure => 0 ≤ found ∧ found < 2 ^ 64 ∧ 3 ≤ sure ∧ LimbQ d w_ found sure) (fun _ _ sure => (w_ - sure).toNat) "found" "sure"
  k_with "state" => first | exact limb_start hpre.1 hpre.2.1 | exact limb_turn hpre.1 hpre.2.1 (by assumption) (by assumption) (by assumption)
  k_steps
  all_goals first
    | ((try dsimp only); refine' ret _ _ _ _ _ ?eF ?eE; (case eF => assumption); (case eE => exact limb_end (by assumption) (by assumption)))
    | (exfalso; omega)

set_option maxHeartbeats 8000000 in
theorem complement_says (w : World) (mean : ExcName → Option Value) (mg mb : Str → Option Value) (la : Addr) (va : List Value) (na : List Int) (n : Int) (tn : Tok) (w_ : Int) (tw_ : Tok) :
    Says w mean mg mb 140 3 24 [.ref la, .int n tn, .int w_ tw_] (fun h => h.IsList la va.toArray ∧ IntsAre va na ∧ na.length ≤ 1000 ∧ 0 ≤ w_ ∧ w_ ≤ 64 ∧ 0 ≤ n ∧ n ≤ 900) (fun h₀ L m news s Q => RetL h₀ L m news s Q (complementF na n w_)) := by
  k_with_none
  w_top off
  k_with "nums" => with_reducible first | exact kmk_all (by k_dflt l_ints) | exact kmk_from (by k_dflt l_ints) (by k_dflt kmk_sign) | exact kmk_upto (by k_dflt l_ints) (by k_dflt kmk_sign) | exact kmk_run (by k_dflt l_ints) (by k_dflt kmk_sign) (by k_dflt kmk_sign)
  k_with "len" => with_reducible first | exact List.length_drop .. | exact (List.length_take ..).trans (congrArg _ (List.length_drop ..)) | exact List.length_take ..
  k_with "omega" => k_whole; first | (with_reducible first | assumption | decide | exact And.left (by assumption) | exact And.right (by assumption) | exact room_ok (by assumption) (by with_unfolding_all rfl) | exact Nat.ne_of_lt (by assumption) | exact Nat.ne_of_gt (by assumption) | exact Nat.ne_of_gt (And.left (by assumption)) | exact Nat.ne_of_gt (And.right (by assumption)) | exact len_lt62 (by assumption) | exact nn_off (by assumption) | exact Int.natCast_nonneg _ | exact Int.add_nonneg (Int.natCast_nonneg _) (Int.natCast_nonneg _) | exact neg_off (by assumption) (by decide) | exact z_off (by assumption) | exact le_z (by decide) (by assumption) | exact lt_z (by decide) (by assumption) | exact le64 (by assumption) (by decide) | exact lt64 (by assumption) (by decide) | exact le1000 (by assumption) (by decide) | exact lt1000 (by assumption) (by decide) | exact le12 (by assumption) (by decide) | exact lt12 (by assumption) (by decide) | exact le900 (by assumption) (by decide) | exact lt900 (by assumption) (by decide) | exact nle1000 (by assumption) (by decide) | exact ne_z (by assumption) | exact Nat.ne_of_gt (And.left (And.right (by assumption))) | exact Nat.ne_of_gt (And.left (And.right (And.right (by assumption)))) | exact And.left (And.right (by assumption))) | (k_dflt lia)
  unfold Says
  k_fill
  intro dp un gd cn cs a ccd cl outer A₀ base h₀ L m news s Q E B F X N T hk hdp hu hpre hret
  obtain ⟨hla, hia, hfa, hpre⟩ := hpre
  have hpq := hpre
  obtain ⟨_, _, _, _⟩ := hpq
  refine wpAny_call ?_
  k_dflt (refine' enter2C ?k1 ?k2 ?k3 ?k5 ?kA ?kF ?kK ?k6 ?k7 ?k8 ?k9 ?kB ?kD ?_ ?c2 ?c3 ?c4; (case kA => exact rfl); (case kF => exact rfl); (case kK => assumption); (case k1 => k_asm); (case k2 => k_asm); (case k3 => k_asm); (case k5 => k_asm); (case k6 => k_is); (case k7 => k_is); (case k8 => ktr_room); (case k9 => exact BindsTo.of_eq rfl); (case kB => exact rfl); (case kD => decide +kernel); (case c2 => exact rfl); (case c3 => exact rfl); (case c4 => exact rfl); k_whole)
  intro Q' E' hQ L' h' tk' cells' hP' F' N' Y' B' X' T'; k_cells Y'
  have ret := retL_of (L' := L') rfl hret F N hQ
  clear hret hQ B X T
  (try dsimp only)
  (try k_fold)
  k_with "call ref" => (k_here; (with_reducible show wpAny _ _ (call (Value.ref 58) [Value.ref _]) _ _ _); k_dflt (refine normal_says _ _ _ _ _ _ _ _ _ _ _ _ _ _ _ _ _ _ _ _ _ _ _ _ _ (by k_asm) (by k_asm) (by k_asm) (by k_asm) (by k_asm) (by first | exact rfl | assumption) (by ktr_room) (by ktr_units) (by ((try dsimp only); (refine' ⟨?_, ?_, ?_⟩; (case _ => kmk_list); (case _ => first | l_ints | exact IntsAre.nil | exact IntsAre.cons _ _ IntsAre.nil); (case _ => first | with_reducible assumption | omega | assumption |  ((try simp only [List.length_take, List.length_drop, List.length_append, List.length_cons, List.length_nil]); omega) | (simp only [List.length_map, rangeKs_length]; omega) | (simp only [List.length_map, rangeKs_length, List.length_cons, List.length_nil] at *; omega))))) ?_); intro D9 vs9 c9 h9 tk9 F9 N9 ne9 i9; (have q9 := len_normal_i i9); (try dsimp only); (try k_sweep); (try k_fold))
  k_with "call ref" => (k_here; (with_reducible show wpAny _ _ (call (Value.ref 72) [Value.ref _, Value.ref _, Value.int _ _]) _ _ _); k_dflt (refine add_says _ _ _ _ _ _ _ _ _ _ _ _ _ _ _ _ _ _ _ _ _ _ _ _ _ _ _ _ _ _ (by k_asm) (by k_asm) (by k_asm) (by k_asm) (by k_asm) (by first | exact rfl | assumption) (by ktr_room) (by ktr_units) (by ((try dsimp only); (refine' ⟨?_, ?_, ?_, ?_, ?_, ?_, ?_⟩; (case _ => kmk_list); (case _ => first | l_ints | exact IntsAre.nil | exact IntsAre.cons _ _ IntsAre.nil); (case _ => first | with_reducible assumption | omega | assumption |  ((try simp only [List.length_take, List.length_drop, List.length_append, List.length_cons, List.length_nil]); omega) | (simp only [List.length_map, rangeKs_length]; omega) | (simp only [List.length_map, rangeKs_length, List.length_cons, List.length_nil] at *; omega)); (case _ => kmk_list); (case _ => first | l_ints | exact IntsAre.nil | exact IntsAre.cons _ _ IntsAre.nil); (case _ => first | with_reducible assumption | omega | assumption |  ((try simp only [List.length_take, List.length_drop, List.length_append, List.length_cons, List.length_nil]); omega) | (simp only [List.length_map, rangeKs_length]; omega) | (simp only [List.length_map, rangeKs_length, List.length_cons, List.length_nil] at *; omega)); (case _ => ((repeat' (with_reducible refine And.intro ?_ ?_)) <;> first | with_reducible assumption | omega | (first | with_reducible assumption | omega | assumption |  ((try simp only [List.length_take, List.length_drop, List.length_append, List.length_cons, List.length_nil]); omega) | (simp only [List.length_map, rangeKs_length]; omega) | (simp only [List.length_map, rangeKs_length, List.length_cons, List.length_nil] at *; omega)) | ((repeat' (first | with_reducible assumption | apply SmP.normal | apply SmP.low | apply SmP.take | apply SmP.drop)); done)))))) ?_); intro D9 vs9 c9 h9 tk9 F9 N9 ne9 i9; (have q9 := len_add_i i9); (try dsimp only); (try k_sweep); (try k_fold))
  k_with "call ref" => (k_here; (with_reducible show wpAny _ _ (call (Value.ref 135) [Value.ref _, Value.int _ _]) _ _ _); k_dflt (refine low_limbs_says _ _ _ _ _ _ _ _ _ _ _ _ _ _ _ _ _ _ _ _ _ _ _ _ _ _ _ (by k_asm) (by k_asm) (by k_asm) (by k_asm) (by k_asm) (by first | exact rfl | assumption) (by ktr_room) (by ktr_units) (by ((try dsimp only); (refine' ⟨?_, ?_, ?_, ?_⟩; (case _ => kmk_list); (case _ => first | l_ints | exact IntsAre.nil | exact IntsAre.cons _ _ IntsAre.nil); (case _ => first | with_reducible assumption | omega | assumption |  ((try simp only [List.length_take, List.length_drop, List.length_append, List.length_cons, List.length_nil]); omega) | (simp only [List.length_map, rangeKs_length]; omega) | (simp only [List.length_map, rangeKs_length, List.length_cons, List.length_nil] at *; omega)); (case _ => ((repeat' (with_reducible refine And.intro ?_ ?_)) <;> first | with_reducible assumption | omega | (first | with_reducible assumption | omega | assumption |  ((try simp only [List.length_take, List.length_drop, List.length_append, List.length_cons, List.length_nil]); omega) | (simp only [List.length_map, rangeKs_length]; omega) | (simp only [List.length_map, rangeKs_length, List.length_cons, List.length_nil] at *; omega)) | ((repeat' (first | with_reducible assumption | apply SmP.normal | apply SmP.low | apply SmP.take | apply SmP.drop)); done)))))) ?_); intro D9 vs9 c9 h9 tk9 F9 N9 ne9 i9; (have q9 := len_low_limbs_i i9); (try dsimp only); (try k_sweep); (try k_fold))
  k_steps
  all_goals ((try dsimp only); refine' ret _ _ _ _ _ _ _ _ ?eF ?eN ?eM ?eI ?eE; (case eF => assumption); (case eN => assumption); (case eM => k_mem); (case eI => first | exact ints_concat (by assumption) | l_ints); (case eE => (unfold complementF; rw [← compl_map hpre.2.2.1])))

set_option maxHeartbeats 8000000 in
theorem inverse_low_says (w : World) (mean : ExcName → Option Value) (mg mb : Str → Option Value) (lb : Addr) (vb : List Value) (nb : List Int) (n : Int) (tn : Tok) (w_ : Int) (tw_ : Tok) :
    Says w mean mg mb 147 4 32 [.ref lb, .int n tn, .int w_ tw_, .ref 154] (fun h => h.IsList lb vb.toArray ∧ IntsAre vb nb ∧ nb.length ≤ 1000 ∧ 0 < w_ ∧ w_ ≤ 64 ∧ 1 ≤ n ∧ n ≤ 12 ∧ SmP nb ∧ (nb.length : Int) ≠ 0 ∧ (nb.getD 0 0).fmod 2 = 1 ∧ invOk nb n w_ 8 [invLimbF (nb.getD 0 0) w_] 1 = true) (fun h₀ L m news s Q => RetL h₀ L m news s Q (invLowF nb n w_)) := by
  k_with_none
  w_top off
  k_with "nums" => with_reducible first | exact kmk_all (by k_dflt l_ints) | exact kmk_from (by k_dflt l_ints) (by k_dflt kmk_sign) | exact kmk_upto (by k_dflt l_ints) (by k_dflt kmk_sign) | exact kmk_run (by k_dflt l_ints) (by k_dflt kmk_sign) (by k_dflt kmk_sign)
  k_with "len" => with_reducible first | exact List.length_drop .. | exact (List.length_take ..).trans (congrArg _ (List.length_drop ..)) | exact List.length_take ..
  k_with "omega" => k_whole; first | (with_reducible first | assumption | decide | exact And.left (by assumption) | exact And.right (by assumption) | exact room_ok (by assumption) (by with_unfolding_all rfl) | exact Nat.ne_of_lt (by assumption) | exact Nat.ne_of_gt (by assumption) | exact Nat.ne_of_gt (And.left (by assumption)) | exact Nat.ne_of_gt (And.right (by assumption)) | exact len_lt62 (by assumption) | exact nn_off (by assumption) | exact Int.natCast_nonneg _ | exact Int.add_nonneg (Int.natCast_nonneg _) (Int.natCast_nonneg _) | exact neg_off (by assumption) (by decide) | exact z_off (by assumption) | exact le_z (by decide) (by assumption) | exact lt_z (by decide) (by assumption) | exact le64 (by assumption) (by decide) | exact lt64 (by assumption) (by decide) | exact le1000 (by assumption) (by decide) | exact lt1000 (by assumption) (by decide) | exact le12 (by assumption) (by decide) | exact lt12 (by assumption) (by decide) | exact le900 (by assumption) (by decide) | exact lt900 (by assumption) (by decide) | exact nle1000 (by assumption) (by decide) | exact ne_z (by assumption) | exact Nat.ne_of_gt (And.left (And.right (by assumption))) | exact Nat.ne_of_gt (And.left (And.right (And.right (by assumption)))) | exact And.left (And.right (by assumption))) | (k_dflt lia)
  unfold Says
  k_fill
  intro dp un gd cn cs a ccd cl outer A₀ base h₀ L m news s Q E B F X N T hk hdp hu hpre hret
  obtain ⟨hlb, hib, hfb, hpre⟩ := hpre
  have hpq := hpre
  obtain ⟨_, _, _, _, _, _, _, _⟩ := hpq
  refine wpAny_call ?_
  k_dflt (refine' enter2 ?k1 ?k2 ?k3 ?k5 ?kA ?kF ?kK ?k6 ?k7 ?k8 ?k9 ?kB ?_ ?c2 ?c3 ?c4 ?c5; (case kA => exact rfl); (case kF => exact rfl); (case kK => assumption); (case k1 => k_asm); (case k2 => k_asm); (case k3 => k_asm); (case k5 => k_asm); (case k6 => k_is); (case k7 => k_is); (case k8 => ktr_room); (case k9 => exact BindsTo.of_eq rfl); (case c5 => decide); (case kB => exact locs rfl); (case c2 => exact rfl); (case c3 => exact rfl); (case c4 => exact rfl); k_whole)
  intro Q' E' hQ L' h' hP' F' N' B' X' T'
  have ret := retL_of (L' := L') rfl hret F N hQ
  clear hret hQ B X T
  (try dsimp only)
  (try k_fold)
  k_with "call ref" => (k_here; (with_reducible show wpAny _ _ (call (Value.ref 72) [Value.ref _, Value.ref _, Value.int _ _]) _ _ _); k_dflt (refine add_says _ _ _ _ _ _ _ _ _ _ _ _ _ _ _ _ _ _ _ _ _ _ _ _ _ _ _ _ _ _ (by k_asm) (by k_asm) (by k_asm) (by k_asm) (by k_asm) (by first | exact rfl | assumption) (by ktr_room) (by ktr_units) (by ((try dsimp only); (refine' ⟨?_, ?_, ?_, ?_, ?_, ?_, ?_⟩; (case _ => kmk_list); (case _ => first | l_ints | exact IntsAre.nil | exact IntsAre.cons _ _ IntsAre.nil); (case _ => first | with_reducible assumption | omega | assumption |  ((try simp only [List.length_take, List.length_drop, List.length_append, List.length_cons, List.length_nil]); omega) | (simp only [List.length_map, rangeKs_length]; omega) | (simp only [List.length_map, rangeKs_length, List.length_cons, List.length_nil] at *; omega)); (case _ => kmk_list); (case _ => first | l_ints | exact IntsAre.nil | exact IntsAre.cons _ _ IntsAre.nil); (case _ => first | with_reducible assumption | omega | assumption |  ((try simp only [List.length_take, List.length_drop, List.length_append, List.length_cons, List.length_nil]); omega) | (simp only [List.length_map, rangeKs_length]; omega) | (simp only [List.length_map, rangeKs_length, List.length_cons, List.length_nil] at *; omega)); (case _ => ((repeat' (with_reducible refine And.intro ?_ ?_)) <;> first | with_reducible assumption | omega | (first | with_reducible assumption | omega | assumption |  ((try simp only [List.length_take, List.length_drop, List.length_append, List.length_cons, List.length_nil]); omega) | (simp only [List.length_map, rangeKs_length]; omega) | (simp only [List.length_map, rangeKs_length, List.length_cons, List.length_nil] at *; omega)) | ((repeat' (first | with_reducible assumption | apply SmP.normal | apply SmP.low | apply SmP.take | apply SmP.drop)); done)))))) ?_); intro D9 vs9 c9 h9 tk9 F9 N9 ne9 i9; (have q9 := len_add_i i9); (try dsimp only); (try k_sweep); (try k_fold))
  k_with "call ref" => (k_here; (with_reducible show wpAny _ _ (call (Value.ref 135) [Value.ref _, Value.int _ _]) _ _ _); k_dflt (refine low_limbs_says _ _ _ _ _ _ _ _ _ _ _ _ _ _ _ _ _ _ _ _ _ _ _ _ _ _ _ (by k_asm) (by k_asm) (by k_asm) (by k_asm) (by k_asm) (by first | exact rfl | assumption) (by ktr_room) (by ktr_units) (by ((try dsimp only); (refine' ⟨?_, ?_, ?_, ?_⟩; (case _ => kmk_list); (case _ => first | l_ints | exact IntsAre.nil | exact IntsAre.cons _ _ IntsAre.nil); (case _ => first | with_reducible assumption | omega | assumption |  ((try simp only [List.length_take, List.length_drop, List.length_append, List.length_cons, List.length_nil]); omega) | (simp only [List.length_map, rangeKs_length]; omega) | (simp only [List.length_map, rangeKs_length, List.length_cons, List.length_nil] at *; omega)); (case _ => ((repeat' (with_reducible refine And.intro ?_ ?_)) <;> first | with_reducible assumption | omega | (first | with_reducible assumption | omega | assumption |  ((try simp only [List.length_take, List.length_drop, List.length_append, List.length_cons, List.length_nil]); omega) | (simp only [List.length_map, rangeKs_length]; omega) | (simp only [List.length_map, rangeKs_length, List.length_cons, List.length_nil] at *; omega)) | ((repeat' (first | with_reducible assumption | apply SmP.normal | apply SmP.low | apply SmP.take | apply SmP.drop)); done)))))) ?_); intro D9 vs9 c9 h9 tk9 F9 N9 ne9 i9; (have q9 := len_low_limbs_i i9); (try dsimp only); (try k_sweep); (try k_fold))
  k_with "call ref" => (k_here; (with_reducible show wpAny _ _ (call (Value.ref 154) [Value.ref _, Value.ref _, Value.int _ _]) _ _ _); k_dflt (refine mul_school_says _ _ _ _ _ _ _ _ _ _ _ _ _ _ _ _ _ _ _ _ _ _ _ _ _ _ _ _ _ _ (by k_asm) (by k_asm) (by k_asm) (by k_asm) (by k_asm) (by first | exact rfl | assumption) (by ktr_room) (by ktr_units) (by ((try dsimp only); (refine' ⟨?_, ?_, ?_, ?_, ?_, ?_, ?_⟩; (case _ => kmk_list); (case _ => first | l_ints | exact IntsAre.nil | exact IntsAre.cons _ _ IntsAre.nil); (case _ => first | with_reducible assumption | omega | assumption |  ((try simp only [List.length_take, List.length_drop, List.length_append, List.length_cons, List.length_nil]); omega) | (simp only [List.length_map, rangeKs_length]; omega) | (simp only [List.length_map, rangeKs_length, List.length_cons, List.length_nil] at *; omega)); (case _ => kmk_list); (case _ => first | l_ints | exact IntsAre.nil | exact IntsAre.cons _ _ IntsAre.nil); (case _ => first | with_reducible assumption | omega | assumption |  ((try simp only [List.length_take, List.length_drop, List.length_append, List.length_cons, List.length_nil]); omega) | (simp only [List.length_map, rangeKs_length]; omega) | (simp only [List.length_map, rangeKs_length, List.length_cons, List.length_nil] at *; omega)); (case _ => ((repeat' (with_reducible refine And.intro ?_ ?_)) <;> first | with_reducible assumption | omega | (first | with_reducible assumption | omega | assumption |  ((try simp only [List.length_take, List.length_drop, List.length_append, List.length_cons, List.length_nil]); omega) | (simp only [List.length_map, rangeKs_length]; omega) | (simp only [List.length_map, rangeKs_length, List.length_cons, List.length_nil] at *; omega)) | ((repeat' (first | with_reducible assumption | apply SmP.normal | apply SmP.low | apply SmP.take | apply SmP.drop)); done)))))) ?_); intro D9 vs9 c9 h9 tk9 F9 N9 ne9 i9; (have q9 := len_mul_i i9); (try dsimp only); (try k_sweep); (try k_fold))
  k_with "call ref" => (k_here; (with_reducible show wpAny _ _ (call (Value.ref 140) [Value.ref _, Value.int _ _, Value.int _ _]) _ _ _); k_dflt (refine complement_says _ _ _ _ _ _ _ _ _ _ _ _ _ _ _ _ _ _ _ _ _ _ _ _ _ _ _ _ _ (by k_asm) (by k_asm) (by k_asm) (by k_asm) (by k_asm) (by first | exact rfl | assumption) (by ktr_room) (by ktr_units) (by ((try dsimp only); (refine' ⟨?_, ?_, ?_, ?_⟩; (case _ => kmk_list); (case _ => first | l_ints | exact IntsAre.nil | exact IntsAre.cons _ _ IntsAre.nil); (case _ => first | with_reducible assumption | omega | assumption |  ((try simp only [List.length_take, List.length_drop, List.length_append, List.length_cons, List.length_nil]); omega) | (simp only [List.length_map, rangeKs_length]; omega) | (simp only [List.length_map, rangeKs_length, List.length_cons, List.length_nil] at *; omega)); (case _ => ((repeat' (with_reducible refine And.intro ?_ ?_)) <;> first | with_reducible assumption | omega | (first | with_reducible assumption | omega | assumption |  ((try simp only [List.length_take, List.length_drop, List.length_append, List.length_cons, List.length_nil]); omega) | (simp only [List.length_map, rangeKs_length]; omega) | (simp only [List.length_map, rangeKs_length, List.length_cons, List.length_nil] at *; omega)) | ((repeat' (first | with_reducible assumption | apply SmP.normal | apply SmP.low | apply SmP.take | apply SmP.drop)); done)))))) ?_); intro D9 vs9 c9 h9 tk9 F9 N9 ne9 i9; (have q9 := len_complement_i i9); (try dsimp only); (try k_sweep); (try k_fold))
  k_with "call ref" => (k_here; (with_reducible show wpAny _ _ (call (Value.ref 128) [Value.int _ _, Value.int _ _]) _ _ _); k_dflt (refine inverse_limb_says _ _ _ _ _ _ _ _ _ _ _ _ _ _ _ _ _ _ _ _ _ _ _ _ _ _ (by k_asm) (by k_asm) (by k_asm) (by k_asm) (by k_asm) (by first | exact rfl | assumption) (by ktr_room) (by ktr_units) (by ((try dsimp only); ((repeat' (with_reducible refine And.intro ?_ ?_)) <;> first | with_reducible assumption | omega | (first | with_reducible assumption | omega | assumption |  ((try simp only [List.length_take, List.length_drop, List.length_append, List.length_cons, List.length_nil]); omega) | (simp only [List.length_map, rangeKs_length]; omega) | (simp only [List.length_map, rangeKs_length, List.length_cons, List.length_nil] at *; omega)) | ((repeat' (first | with_reducible assumption | apply SmP.normal | apply SmP.low | apply SmP.take | apply SmP.drop)); done)))) ?_); intro t9 h9 tk9 F9 N9; (try dsimp only); (try k_sweep); (try k_fold))
  obtain ⟨hw1, hw2, hn1, hn2, hsm, hb0, hb1, hok⟩ := hpre
  k_with "exec Raise some none" => k_dflt (exfalso; first | omega | exact absurd (by assumption : (nb.getD (Int.toNat 0) 0).fmod 2 = 0) (by show ¬ (nb.getD 0 0).fmod 2 = 0; omega))
  k_with "exec While Compare cons nil" => ((rename Fr _ _ _ _ => lF'); (rename News _ _ _ _ => lN'); (with_unfolding_all refine' while_rebind (Str.ofString "found") (Str.ofString "size") [Str.ofString "rest", Str.ofString "wanted"] (fun ns x => 1 ≤ x ∧ x ≤ n ∧ InvQ nb n w_ ns x) (fun x => (n - x).toNat) lF' lN' ?km ?ki ?ky ?kz ?kp ?_); (case km => k_mem); (case ki => first | l_ints | exact IntsAre.cons _ _ IntsAre.nil); (case ky => rfl); (case kz => rfl); (case kp => exact inv_start hn1 hok); (intro DW vsW nsW cnW xW tW uW hW tkW iW pW FW NW; (obtain ⟨pW1, pW2, pW3⟩ := pW); (have sW1 := pW3.sm.1); (have sW2 := pW3.sm.2); (have zW1 := (inv_size pW1 pW2).1); (have zW2 := (inv_size pW1 pW2).2); (clear lF' lN'); (try k_fold)))
  k_with "KswEnd" => k_dflt ((rename News _ _ _ _ => nE'); (refine' ksw_end (_, _, _, _, _, _) ?zF nE' ?zn ?zf ?zk ?zr ?zp ?zm); (case zF => assumption); (case zn => kst_in); (case zf => ((try dsimp only); assumption)); (case zk => kst_all); (case zr => (intro z h2 h3; (simp only [List.forall_mem_cons, List.not_mem_nil, false_implies, implies_true, and_true, ne_eq] at h2); (simp only [List.contains_cons, List.contains_nil, Bool.or_false, Bool.or_eq_false_iff, beq_eq_false_iff_ne, ne_eq] at h3); (simp [h2, h3, kstB]))); (case zp => ((try dsimp only); exact inv_turn pW1 pW3 (by assumption))); (case zm => ((try dsimp only); exact inv_less pW1 (by assumption))))
  k_steps
  all_goals first
    | (exfalso; omega)
    | exact absurd (by assumption : (nb.getD (Int.toNat 0) 0).fmod 2 = 0) (by show ¬ (nb.getD 0 0).fmod 2 = 0; omega)
    | ((try dsimp only); refine' ret _ _ _ _ _ _ _ _ ?eF ?eN ?eM ?eI ?eE; (case eF => assumption); (case eN => assumption); (case eM => k_mem); (case eI => first | exact ints_concat (by assumption) | l_ints); (case eE => exact inv_end pW3 (by assumption)))

set_option maxHeartbeats 8000000 in
theorem ways_t_says (w : World) (mean : ExcName → Option Value) (mg mb : Str → Option Value) (lparts : Addr) (vparts : List Value) (nparts : List Int) (n : Int) (tn : Tok) :
    Says w mean mg mb 168 1 8 [.ref lparts, .int n tn, .bool true] (fun h => h.IsList lparts vparts.toArray ∧ IntsAre vparts nparts ∧ nparts.length ≤ 1000 ∧ 1 ≤ n ∧ n ≤ 900 ∧ (∀ p ∈ nparts, 0 ≤ p ∧ p ≤ n) ∧ waysF (nparts.map Int.toNat) n.toNat true ≠ []) (fun h₀ L m news s Q => RetL h₀ L m news s Q (waysF (nparts.map Int.toNat) n.toNat true)) := by
  k_with_none
  w_top off
  k_with "nums" => with_reducible first | exact kmk_all (by k_dflt l_ints) | exact kmk_from (by k_dflt l_ints) (by k_dflt kmk_sign) | exact kmk_upto (by k_dflt l_ints) (by k_dflt kmk_sign) | exact kmk_run (by k_dflt l_ints) (by k_dflt kmk_sign) (by k_dflt kmk_sign)
  k_with "len" => with_reducible first | exact List.length_drop .. | exact (List.length_take ..).trans (congrArg _ (List.length_drop ..)) | exact List.length_take ..
  k_with "omega" => k_whole; first | (with_reducible first | assumption | decide | exact And.left (by assumption) | exact And.right (by assumption) | exact room_ok (by assumption) (by with_unfolding_all rfl) | exact Nat.ne_of_lt (by assumption) | exact Nat.ne_of_gt (by assumption) | exact Nat.ne_of_gt (And.left (by assumption)) | exact Nat.ne_of_gt (And.right (by assumption)) | exact len_lt62 (by assumption) | exact nn_off (by assumption) | exact Int.natCast_nonneg _ | exact Int.add_nonneg (Int.natCast_nonneg _) (Int.natCast_nonneg _) | exact neg_off (by assumption) (by decide) | exact z_off (by assumption) | exact le_z (by decide) (by assumption) | exact lt_z (by decide) (by assumption) | exact le64 (by assumption) (by decide) | exact lt64 (by assumption) (by decide) | exact le1000 (by assumption) (by decide) | exact lt1000 (by assumption) (by decide) | exact le12 (by assumption) (by decide) | exact lt12 (by assumption) (by decide) | exact le900 (by assumption) (by decide) | exact lt900 (by assumption) (by decide) | exact nle1000 (by assumption) (by decide) | exact ne_z (by assumption) | exact Nat.ne_of_gt (And.left (And.right (by assumption))) | exact Nat.ne_of_gt (And.left (And.right (And.right (by assumption)))) | exact And.left (And.right (by assumption))) | (k_dflt lia)
  unfold Says
  k_fill
  intro dp un gd cn cs a ccd cl outer A₀ base h₀ L m news s Q E B F X N T hk hdp hu hpre hret
  obtain ⟨hlparts, hiparts, hfparts, hpre⟩ := hpre
  have hpq := hpre
  obtain ⟨_, _, _, _⟩ := hpq
  refine wpAny_call ?_
  k_dflt (refine' enter2 ?k1 ?k2 ?k3 ?k5 ?kA ?kF ?kK ?k6 ?k7 ?k8 ?k9 ?kB ?_ ?c2 ?c3 ?c4 ?c5; (case kA => exact rfl); (case kF => exact rfl); (case kK => assumption); (case k1 => k_asm); (case k2 => k_asm); (case k3 => k_asm); (case k5 => k_asm); (case k6 => k_is); (case k7 => k_is); (case k8 => ktr_room); (case k9 => exact BindsTo.of_eq rfl); (case c5 => decide); (case kB => exact locs rfl); (case c2 => exact rfl); (case c3 => exact rfl); (case c4 => exact rfl); k_whole)
  intro Q' E' hQ L' h' hP' F' N' B' X' T'
  have ret := retL_of (L' := L') rfl hret F N hQ
  clear hret hQ B X T
  (try dsimp only)
  (try k_fold)
  k_with "call type:range" => ((rename Fr _ _ _ _ => F7); (rename News _ _ _ _ => N7); (with_unfolding_all refine range2_led F7 N7 ?_); intro r7 h7 tk7 t7 u7 v7 F7' N7' l7; (try k_lt l7); (try k_sweep))
  k_with "call type:range" => ((rename Fr _ _ _ _ => F7); (rename News _ _ _ _ => N7); (with_unfolding_all refine range3_led F7 N7 (by decide) ?_ (Or.inl (PyProof.noPylong_small (by omega)))); intro r7 h7 tk7 t7 u7 v7 F7' N7' l7; (try k_lt l7); (try k_sweep))
  obtain ⟨hn1, hn2, hparts, hne⟩ := hpre
  k_with "pyIter ref" => k_of "part" => k_state (fun pre ways => ways.length = n.toNat ∧ ways = wsFold n.toNat true pre) "ways"
  k_with "exec For Name Name cons nil" => ((rename Fr _ _ _ _ => lF'); (with_unfolding_all refine' For_invVF lF' ?k1 ?k2 ?_); (case k1 => exact rfl); (case k2 => exact rfl))
  k_with "pyIter ref" => k_of "whole" => ((have hpk := hparts _ kMem); (rename News _ _ _ _ => lN0); (have rgX0 := range_at lN0 (by exact List.Mem.head _)); k_state_given ["ways!", "part"] (fun w0 p pre ways => ways.length = w0.length ∧ ways = waysIn p.toNat (pre.map Int.toNat) w0) "ways")
  k_with "exec While Compare cons nil" => k_while (fun _ ways => 1 ≤ ways.length ∧ ways.length ≤ 900 ∧ normalF ways = waysF (nparts.map Int.toNat) n.toNat true) (fun _ ways => ways.length) "ways"
  k_with "state" => first | exact ways_start hn1 | exact win_start | exact win_turn (by assumption) (by assumption) hpk.1 | exact ways_down (by assumption) (by assumption) (by assumption) (by assumption) hpk.1 | exact wh_start hn1 hn2 (by assumption) (by assumption) | exact wh_turn (by assumption) (by assumption) (by assumption) (by assumption) hne
  k_with "measure" => exact wh_less (by assumption)
  k_steps
  all_goals ((try dsimp only); refine' ret _ _ _ _ _ _ _ _ ?eF ?eN ?eM ?eI ?eE; (case eF => assumption); (case eN => assumption); (case eM => k_mem); (case eI => first | exact ints_concat (by assumption) | l_ints); (case eE => exact wh_end (by assumption) (by assumption) (by assumption)))

set_option maxHeartbeats 8000000 in
theorem ways_f_says (w : World) (mean : ExcName → Option Value) (mg mb : Str → Option Value) (lparts : Addr) (vparts : List Value) (nparts : List Int) (n : Int) (tn : Tok) :
    Says w mean mg mb 168 1 8 [.ref lparts, .int n tn, .bool false] (fun h => h.IsList lparts vparts.toArray ∧ IntsAre vparts nparts ∧ nparts.length ≤ 1000 ∧ 1 ≤ n ∧ n ≤ 900 ∧ (∀ p ∈ nparts, 0 ≤ p ∧ p ≤ n) ∧ waysF (nparts.map Int.toNat) n.toNat false ≠ []) (fun h₀ L m news s Q => RetL h₀ L m news s Q (waysF (nparts.map Int.toNat) n.toNat false)) := by
  k_with_none
  w_top off
  k_with "nums" => with_reducible first | exact kmk_all (by k_dflt l_ints) | exact kmk_from (by k_dflt l_ints) (by k_dflt kmk_sign) | exact kmk_upto (by k_dflt l_ints) (by k_dflt kmk_sign) | exact kmk_run (by k_dflt l_ints) (by k_dflt kmk_sign) (by k_dflt kmk_sign)
  k_with "len" => with_reducible first | exact List.length_drop .. | exact (List.length_take ..).trans (congrArg _ (List.length_drop ..)) | exact List.length_take ..
  k_with "omega" => k_whole; first | (with_reducible first | assumption | decide | exact And.left (by assumption) | exact And.right (by assumption) | exact room_ok (by assumption) (by with_unfolding_all rfl) | exact Nat.ne_of_lt (by assumption) | exact Nat.ne_of_gt (by assumption) | exact Nat.ne_of_gt (And.left (by assumption)) | exact Nat.ne_of_gt (And.right (by assumption)) | exact len_lt62 (by assumption) | exact nn_off (by assumption) | exact Int.natCast_nonneg _ | exact Int.add_nonneg (Int.natCast_nonneg _) (Int.natCast_nonneg _) | exact neg_off (by assumption) (by decide) | exact z_off (by assumption) | exact le_z (by decide) (by assumption) | exact lt_z (by decide) (by assumption) | exact le64 (by assumption) (by decide) | exact lt64 (by assumption) (by decide) | exact le1000 (by assumption) (by decide) | exact lt1000 (by assumption) (by decide) | exact le12 (by assumption) (by decide) | exact lt12 (by assumption) (by decide) | exact le900 (by assumption) (by decide) | exact lt900 (by assumption) (by decide) | exact nle1000 (by assumption) (by decide) | exact ne_z (by assumption) | exact Nat.ne_of_gt (And.left (And.right (by assumption))) | exact Nat.ne_of_gt (And.left (And.right (And.right (by assumption)))) | exact And.left (And.right (by assumption))) | (k_dflt lia)
  unfold Says
  k_fill
  intro dp un gd cn cs a ccd cl outer A₀ base h₀ L m news s Q E B F X N T hk hdp hu hpre hret
  obtain ⟨hlparts, hiparts, hfparts, hpre⟩ := hpre
  have hpq := hpre
  obtain ⟨_, _, _, _⟩ := hpq
  refine wpAny_call ?_
  k_dflt (refine' enter2 ?k1 ?k2 ?k3 ?k5 ?kA ?kF ?kK ?k6 ?k7 ?k8 ?k9 ?kB ?_ ?c2 ?c3 ?c4 ?c5; (case kA => exact rfl); (case kF => exact rfl); (case kK => assumption); (case k1 => k_asm); (case k2 => k_asm); (case k3 => k_asm); (case k5 => k_asm); (case k6 => k_is); (case k7 => k_is); (case k8 => ktr_room); (case k9 => exact BindsTo.of_eq rfl); (case c5 => decide); (case kB => exact locs rfl); (case c2 => exact rfl); (case c3 => exact rfl); (case c4 => exact rfl); k_whole)
  intro Q' E' hQ L' h' hP' F' N' B' X' T'
  have ret := retL_of (L' := L') rfl hret F N hQ
  clear hret hQ B X T
  (try dsimp only)
  (try k_fold)
  k_with "call type:range" => ((rename Fr _ _ _ _ => F7); (rename News _ _ _ _ => N7); (with_unfolding_all refine range2_led F7 N7 ?_); intro r7 h7 tk7 t7 u7 v7 F7' N7' l7; (try k_lt l7); (try k_sweep))
  k_with "call type:range" => ((rename Fr _ _ _ _ => F7); (rename News _ _ _ _ => N7); (with_unfolding_all refine range3_led F7 N7 (by decide) ?_ (Or.inl (PyProof.noPylong_small (by omega)))); intro r7 h7 tk7 t7 u7 v7 F7' N7' l7; (try k_lt l7); (try k_sweep))
  obtain ⟨hn1, hn2, hparts, hne⟩ := hpre
  k_with "pyIter ref" => k_of "part" => k_state (fun pre ways => ways.length = n.toNat ∧ ways = wsFold n.toNat false pre) "ways"
  k_with "exec For Name Name cons nil" => ((rename Fr _ _ _ _ => lF'); (with_unfolding_all refine' For_invVF lF' ?k1 ?k2 ?_); (case k1 => exact rfl); (case k2 => exact rfl))
  k_with "pyIter ref" => k_of "whole" => ((have hpk := hparts _ kMem); (rename News _ _ _ _ => lN0); (have rgX0 := range_at lN0 (by exact List.Mem.head _)); k_state_given ["ways!", "part"] (fun w0 p pre ways => ways.length = w0.length ∧ ways = waysIn p.toNat (pre.map Int.toNat) w0) "ways")
  k_with "exec While Compare cons nil" => k_while (fun _ ways => 1 ≤ ways.length ∧ ways.length ≤ 900 ∧ normalF ways = waysF (nparts.map Int.toNat) n.toNat false) (fun _ ways => ways.length) "ways"
  k_with "state" => first | exact ways_start hn1 | exact win_start | exact win_turn (by assumption) (by assumption) hpk.1 | exact ways_up (by assumption) (by assumption) (by assumption) (by assumption) hpk.1 | exact wh_start hn1 hn2 (by assumption) (by assumption) | exact wh_turn (by assumption) (by assumption) (by assumption) (by assumption) hne
  k_with "measure" => exact wh_less (by assumption)
  k_steps
  all_goals ((try dsimp only); refine' ret _ _ _ _ _ _ _ _ ?eF ?eN ?eM ?eI ?eE; (case eF => assumption); (case eN => assumption); (case eM => k_mem); (case eI => first | exact ints_concat (by assumption) | l_ints); (case eE => exact wh_end (by assumption) (by assumption) (by assumption)))

set_option maxHeartbeats 8000000 in
theorem cw : PySem.Challenge.rw_xm0400_01.Holds := hd (by
  k_with_none
  k_with "nums" => with_reducible first | exact kmk_all (by k_dflt l_ints) | exact kmk_from (by k_dflt l_ints) (by k_dflt kmk_sign) | exact kmk_upto (by k_dflt l_ints) (by k_dflt kmk_sign) | exact kmk_run (by k_dflt l_ints) (by k_dflt kmk_sign) (by k_dflt kmk_sign)
  k_with "len" => with_reducible first | exact List.length_drop .. | exact (List.length_take ..).trans (congrArg _ (List.length_drop ..)) | exact List.length_take ..
  k_with "omega" => k_whole; first | (with_reducible first | assumption | decide | exact And.left (by assumption) | exact And.right (by assumption) | exact room_ok (by assumption) (by with_unfolding_all rfl) | exact Nat.ne_of_lt (by assumption) | exact Nat.ne_of_gt (by assumption) | exact Nat.ne_of_gt (And.left (by assumption)) | exact Nat.ne_of_gt (And.right (by assumption)) | exact len_lt62 (by assumption) | exact nn_off (by assumption) | exact le_h (by assumption) | exact up_lo (by assumption) (by decide) | exact up_lt (by assumption) (by decide) | exact up_hl (by assumption) (by decide) | exact up_hi (by assumption) (by decide) | exact up_nat (by assumption) (by decide) | exact Int.natCast_nonneg _ | exact Int.add_nonneg (Int.natCast_nonneg _) (Int.natCast_nonneg _) | exact neg_off (by assumption) (by decide) | exact z_off (by assumption) | exact le_z (by decide) (by assumption) | exact lt_z (by decide) (by assumption) | exact le64 (by assumption) (by decide) | exact lt64 (by assumption) (by decide) | exact le1000 (by assumption) (by decide) | exact lt1000 (by assumption) (by decide) | exact le12 (by assumption) (by decide) | exact lt12 (by assumption) (by decide) | exact le900 (by assumption) (by decide) | exact lt900 (by assumption) (by decide) | exact nle1000 (by assumption) (by decide) | exact ne_z (by assumption) | exact Nat.ne_of_gt (And.left (And.right (by assumption))) | exact Nat.ne_of_gt (And.left (And.right (And.right (by assumption)))) | exact And.left (And.right (by assumption))) | ((fail_if_success (with_reducible show False)); k_dflt lia)
  k_go0
  all_goals (try k_fold)
  k_with "call ref" => (k_here; (with_reducible show wpAny _ _ (call (Value.ref 161) [Value.ref _, Value.int _ _]) _ _ _); k_dflt (refine paved_says _ _ _ _ _ _ _ _ _ _ _ _ _ _ _ _ _ _ _ _ _ _ _ _ _ _ _ _ _ _ _ _ _ (by k_asm) (by k_asm) (by k_asm) (by k_asm) (by k_asm) (by first | exact rfl | assumption) (by ktr_room) (by ktr_units) (by decide) (by first | decide | omega) (by first | decide | omega) (by assumption) (by (simp only [List.length_map, List.length_take]; omega)) (by ((try dsimp only); omega)) (by ((try dsimp only); omega)) (by ((try dsimp only); omega)) ?_); k_extra "paved"; (try dsimp only); (try k_sweep); (try k_fold))
  k_with "call ref" => (k_here; (with_reducible show wpAny _ _ (call (Value.ref 121) [Value.ref _, Value.ref _, Value.int _ _, Value.int _ _, Value.int 4 _, Value.ref 154]) _ _ _); k_dflt (refine lp_top_says _ _ _ _ _ _ _ _ _ _ _ _ _ _ _ _ _ _ _ _ _ _ _ _ _ _ _ _ _ _ _ _ _ (by k_asm) (by k_asm) (by k_asm) (by k_asm) (by k_asm) (by first | exact rfl | assumption) (by ktr_room) (by ktr_units) (by ((try dsimp only); (refine' ⟨?_, ?_, ?_, ?_, ?_, ?_, ?_⟩; (case _ => kmk_list); (case _ => first | l_ints | exact IntsAre.nil | exact IntsAre.cons _ _ IntsAre.nil); (case _ => first | with_reducible assumption | omega | assumption |  ((try simp only [List.length_take, List.length_drop, List.length_append, List.length_cons, List.length_nil]); omega) | (simp only [List.length_map, rangeKs_length]; omega) | (simp only [List.length_map, rangeKs_length, List.length_cons, List.length_nil] at *; omega)); (case _ => kmk_list); (case _ => first | l_ints | exact IntsAre.nil | exact IntsAre.cons _ _ IntsAre.nil); (case _ => first | with_reducible assumption | omega | assumption |  ((try simp only [List.length_take, List.length_drop, List.length_append, List.length_cons, List.length_nil]); omega) | (simp only [List.length_map, rangeKs_length]; omega) | (simp only [List.length_map, rangeKs_length, List.length_cons, List.length_nil] at *; omega)); (case _ => first | assumption | k_extra "pre lp_top")))) ?_); intro D9 vs9 c9 h9 tk9 F9 N9 ne9 i9; (try dsimp only); (try k_sweep); (try k_fold))
  k_with "call ref" => (k_here; (with_reducible show wpAny _ _ (call (Value.ref 168) [Value.ref _, Value.int _ _, Value.bool true]) _ _ _); k_dflt (refine ways_t_says _ _ _ _ _ _ _ _ _ _ _ _ _ _ _ _ _ _ _ _ _ _ _ _ _ _ _ (by k_asm) (by k_asm) (by k_asm) (by k_asm) (by k_asm) (by first | exact rfl | assumption) (by ktr_room) (by ktr_units) (by ((try dsimp only); (refine' ⟨?_, ?_, ?_, ?_⟩; (case _ => kmk_list); (case _ => first | l_ints | exact IntsAre.nil | exact IntsAre.cons _ _ IntsAre.nil); (case _ => first | with_reducible assumption | omega | assumption |  ((try simp only [List.length_take, List.length_drop, List.length_append, List.length_cons, List.length_nil]); omega) | (simp only [List.length_map, rangeKs_length]; omega) | (simp only [List.length_map, rangeKs_length, List.length_cons, List.length_nil] at *; omega)); (case _ => first | assumption | k_extra "pre ways_t")))) ?_); intro D9 vs9 c9 h9 tk9 F9 N9 ne9 i9; (try dsimp only); (try k_sweep); (try k_fold))
  k_with "call ref" => (k_here; (with_reducible show wpAny _ _ (call (Value.ref 168) [Value.ref _, Value.int _ _, Value.bool false]) _ _ _); k_dflt (refine ways_f_says _ _ _ _ _ _ _ _ _ _ _ _ _ _ _ _ _ _ _ _ _ _ _ _ _ _ _ (by k_asm) (by k_asm) (by k_asm) (by k_asm) (by k_asm) (by first | exact rfl | assumption) (by ktr_room) (by ktr_units) (by ((try dsimp only); (refine' ⟨?_, ?_, ?_, ?_⟩; (case _ => kmk_list); (case _ => first | l_ints | exact IntsAre.nil | exact IntsAre.cons _ _ IntsAre.nil); (case _ => first | with_reducible assumption | omega | assumption |  ((try simp only [List.length_take, List.length_drop, List.length_append, List.length_cons, List.length_nil]); omega) | (simp only [List.length_map, rangeKs_length]; omega) | (simp only [List.length_map, rangeKs_length, List.length_cons, List.length_nil] at *; omega)); (case _ => first | assumption | k_extra "pre ways_f")))) ?_); intro D9 vs9 c9 h9 tk9 F9 N9 ne9 i9; (try dsimp only); (try k_sweep); (try k_fold))
  k_with "call ref" => (k_here; (with_reducible show wpAny _ _ (call (Value.ref 147) [Value.ref _, Value.int _ _, Value.int _ _, Value.ref 154]) _ _ _); k_dflt (refine inverse_low_says _ _ _ _ _ _ _ _ _ _ _ _ _ _ _ _ _ _ _ _ _ _ _ _ _ _ _ _ _ (by k_asm) (by k_asm) (by k_asm) (by k_asm) (by k_asm) (by first | exact rfl | assumption) (by ktr_room) (by ktr_units) (by ((try dsimp only); (refine' ⟨?_, ?_, ?_, ?_⟩; (case _ => kmk_list); (case _ => first | l_ints | exact IntsAre.nil | exact IntsAre.cons _ _ IntsAre.nil); (case _ => first | with_reducible assumption | omega | assumption |  ((try simp only [List.length_take, List.length_drop, List.length_append, List.length_cons, List.length_nil]); omega) | (simp only [List.length_map, rangeKs_length]; omega) | (simp only [List.length_map, rangeKs_length, List.length_cons, List.length_nil] at *; omega)); (case _ => first | assumption | k_extra "pre inverse_low")))) ?_); intro D9 vs9 c9 h9 tk9 F9 N9 ne9 i9; (try dsimp only); (try k_sweep); (try k_fold))
  k_with "call ref" => (k_here; (with_reducible show wpAny _ _ (call (Value.ref 100) [Value.ref _, Value.int _ _, Value.int _ _]) _ _ _); k_dflt (refine low_says _ _ _ _ _ _ _ _ _ _ _ _ _ _ _ _ _ _ _ _ _ _ _ _ _ _ _ _ _ (by k_asm) (by k_asm) (by k_asm) (by k_asm) (by k_asm) (by first | exact rfl | assumption) (by ktr_room) (by ktr_units) (by ((try dsimp only); (refine' ⟨?_, ?_, ?_, ?_⟩; (case _ => kmk_list); (case _ => first | l_ints | exact IntsAre.nil | exact IntsAre.cons _ _ IntsAre.nil); (case _ => first | with_reducible assumption | omega | assumption |  ((try simp only [List.length_take, List.length_drop, List.length_append, List.length_cons, List.length_nil]); omega) | (simp only [List.length_map, rangeKs_length]; omega) | (simp only [List.length_map, rangeKs_length, List.length_cons, List.length_nil] at *; omega)); (case _ => first | assumption | k_extra "pre low")))) ?_); intro D9 vs9 c9 h9 tk9 F9 N9 ne9 i9; (try dsimp only); (try k_sweep); (try k_fold))
  k_with "call ref" => (k_here; (with_reducible show wpAny _ _ (call (Value.ref 86) [Value.ref _, Value.int _ _]) _ _ _); k_dflt (refine lifted_says _ _ _ _ _ _ _ _ _ _ _ _ _ _ _ _ _ _ _ _ _ _ _ _ _ _ _ (by k_asm) (by k_asm) (by k_asm) (by k_asm) (by k_asm) (by first | exact rfl | assumption) (by ktr_room) (by ktr_units) (by ((try dsimp only); (refine' ⟨?_, ?_, ?_, ?_⟩; (case _ => kmk_list); (case _ => first | l_ints | exact IntsAre.nil | exact IntsAre.cons _ _ IntsAre.nil); (case _ => first | with_reducible assumption | omega | assumption |  ((try simp only [List.length_take, List.length_drop, List.length_append, List.length_cons, List.length_nil]); omega) | (simp only [List.length_map, rangeKs_length]; omega) | (simp only [List.length_map, rangeKs_length, List.length_cons, List.length_nil] at *; omega)); (case _ => first | assumption | k_extra "pre lifted")))) ?_); intro D9 vs9 c9 h9 tk9 F9 N9 ne9 i9; (have q9 := len_lifted_i i9); (try dsimp only); (try k_sweep); (try k_fold))
  k_with "call ref" => (k_here; (with_reducible show wpAny _ _ (call (Value.ref 79) [Value.ref _, Value.ref _, Value.int _ _]) _ _ _); k_dflt (refine sub_says _ _ _ _ _ _ _ _ _ _ _ _ _ _ _ _ _ _ _ _ _ _ _ _ _ _ _ _ _ _ (by k_asm) (by k_asm) (by k_asm) (by k_asm) (by k_asm) (by first | exact rfl | assumption) (by ktr_room) (by ktr_units) (by ((try dsimp only); (refine' ⟨?_, ?_, ?_, ?_, ?_, ?_, ?_⟩; (case _ => kmk_list); (case _ => first | l_ints | exact IntsAre.nil | exact IntsAre.cons _ _ IntsAre.nil); (case _ => first | with_reducible assumption | omega | assumption |  ((try simp only [List.length_take, List.length_drop, List.length_append, List.length_cons, List.length_nil]); omega) | (simp only [List.length_map, rangeKs_length]; omega) | (simp only [List.length_map, rangeKs_length, List.length_cons, List.length_nil] at *; omega)); (case _ => kmk_list); (case _ => first | l_ints | exact IntsAre.nil | exact IntsAre.cons _ _ IntsAre.nil); (case _ => first | with_reducible assumption | omega | assumption |  ((try simp only [List.length_take, List.length_drop, List.length_append, List.length_cons, List.length_nil]); omega) | (simp only [List.length_map, rangeKs_length]; omega) | (simp only [List.length_map, rangeKs_length, List.length_cons, List.length_nil] at *; omega)); (case _ => first | assumption | k_extra "pre sub")))) ?_); intro D9 vs9 c9 h9 tk9 F9 N9 ne9 i9; (try dsimp only); (try k_sweep); (try k_fold))
  k_with "call ref" => (k_here; (with_reducible show wpAny _ _ (call (Value.ref 72) [Value.ref _, Value.ref _, Value.int _ _]) _ _ _); k_dflt (refine add_says _ _ _ _ _ _ _ _ _ _ _ _ _ _ _ _ _ _ _ _ _ _ _ _ _ _ _ _ _ _ (by k_asm) (by k_asm) (by k_asm) (by k_asm) (by k_asm) (by first | exact rfl | assumption) (by ktr_room) (by ktr_units) (by ((try dsimp only); (refine' ⟨?_, ?_, ?_, ?_, ?_, ?_, ?_⟩; (case _ => kmk_list); (case _ => first | l_ints | exact IntsAre.nil | exact IntsAre.cons _ _ IntsAre.nil); (case _ => first | with_reducible assumption | omega | assumption |  ((try simp only [List.length_take, List.length_drop, List.length_append, List.length_cons, List.length_nil]); omega) | (simp only [List.length_map, rangeKs_length]; omega) | (simp only [List.length_map, rangeKs_length, List.length_cons, List.length_nil] at *; omega)); (case _ => kmk_list); (case _ => first | l_ints | exact IntsAre.nil | exact IntsAre.cons _ _ IntsAre.nil); (case _ => first | with_reducible assumption | omega | assumption |  ((try simp only [List.length_take, List.length_drop, List.length_append, List.length_cons, List.length_nil]); omega) | (simp only [List.length_map, rangeKs_length]; omega) | (simp only [List.length_map, rangeKs_length, List.length_cons, List.length_nil] at *; omega)); (case _ => first | assumption | k_extra "pre add")))) ?_); intro D9 vs9 c9 h9 tk9 F9 N9 ne9 i9; (have q9 := len_add_i i9); (try dsimp only); (try k_sweep); (try k_fold))
  k_with "call type:list" => (k_here; (with_reducible show wpAny _ _ (call (Value.type _) [Value.ref _]) _ _ _); (rename IsRange _ _ _ _ _ _ _ _ => rgX); (rename Fr _ _ _ _ => F7); (rename News _ _ _ _ => N7); (with_unfolding_all refine kll_range (by rfl) F7 N7 rgX (small_one (by omega) (by omega) (by omega) (by omega)) (rangeSize_nat _ _) (by omega) ?_); intro D7 us7 c7 h7 tk7 F7' N7' l7 i7; (try k_lt l7); (try k_sweep))
  k_with "paved" => first | ((fail_if_success (have _ := rP1)); intro rP1 tP1 sP1 cP1 hP1 kP1 aP1 bP1 FP1 NP1) | (intro rP2 tP2 sP2 cP2 hP2 kP2 aP2 bP2 FP2 NP2; have hlaw := law_all aP1 bP1 aP2 bP2)
  k_with "pyIter ref" => k_of "k" => ((rename Fr _ _ _ _ => lF'); (rename News _ _ _ _ => lN'); (rename IsRange _ _ _ _ _ _ _ _ => rgX); (with_unfolding_all refine' reb_range (Str.ofString "ways") [] [] (fun i ways => UpP (5 + rP2) (8 + rP1) i ways) (by rfl) rgX (small_one (by omega) (by omega) (by omega) (by omega)) (rangeSize_nat _ _) lF' lN' ?km (List.forall_mem_nil _) ?ki ?ky ?kp ?_ ?_); (case km => k_mem); (case ki => first | l_ints | exact IntsAre.cons _ _ IntsAre.nil); (case ky => rfl); (case kp => exact hlaw); (clear lF' lN'); rotate_left; (intro DV vsV nsV cV uV hV tkV iV pV FV NV; (have dV := upP_done pV); (try k_fold)); rotate_left; (intro iU kU tU DU vsU nsU cU uU hU tkU ownU eK lU iiU pU FU NU; subst eK; (obtain ⟨u1, u2, u3, u4, u6, u7⟩ := upP_step pU lU); (have u5 := oneAt_len lU (by omega)); (try simp only [List.nil_append] at NU); (try k_fold)))
  k_with "pre ways_t" => exact ⟨by omega, by omega, parts_ok lU, u4⟩
  k_with "pre lp_top" => exact ⟨by omega, by omega, by omega, by omega, by assumption⟩
  k_with "pre ways_f" => exact ⟨by omega, by omega, by assumption, by assumption⟩
  k_with "pre inverse_low" => exact ⟨by omega, by omega, by omega, by omega, d1, d3, d4, d5⟩
  k_with "pre low" => exact ⟨by omega, by omega, hnw.1, hnw.2⟩
  k_with "pre lifted" => exact ⟨by assumption, Int.le_trans (by assumption) (by omega)⟩
  k_with "pre sub" => exact ⟨by omega, by omega, by assumption⟩
  k_with "pre add" => exact ⟨by omega, by omega⟩
  k_with "pyIter ref" => k_of "at" => ((rename Fr _ _ _ _ => lF'); (rename News _ _ _ _ => lN'); (rename IsRange _ _ _ _ _ _ _ _ => rgX); (have hol := odd_len (5 + rP2) PyData.int); (have hnw := nw_bound aP1 bP1 aP2 bP2); (with_unfolding_all refine' reb_range (Str.ofString "ways") [Str.ofString "turned", Str.ofString "raised", Str.ofString "later", Str.ofString "due"] [_] (fun i ways => DnP (5 + rP2) (8 + rP1) i ways) (by rfl) rgX (small_one (by omega) (by omega) (by omega) (by omega)) (rangeSize_nat _ _) lF' lN' ?km (List.forall_mem_cons.mpr ⟨List.Mem.head _, List.forall_mem_nil _⟩) ?ki ?ky ?kp ?_ ?_); (case ky => rfl); (case ki => exact iV); (case km => k_mem); (case kp => exact dV); (clear lF' lN'); rotate_left; (intro DX vsX nsX cX uX hX tkX iX pX FX NX; (have eX := dn_end pX (by (have := odd_len' (5 + rP2) PyData.int); omega)); (try k_fold)); rotate_left; (intro iD kD tD DD vsD nsD cD uD hD tkD ownD eD lD iiD pD FD ND; (have lD2 : iD < (oddL (5 + rP2)).length := by (have := odd_len' (5 + rP2) PyData.int); omega); (obtain ⟨d1, d2, d3, d4, d5, d6, d7, d8, d9, d10, d11, d12, d13, d14, d15, d16, d17, d18, d19, d20, d21⟩ := dnP_step pD lD2 eD); (have topl := top_len (n := 5 + rP2) (by omega)); (unfold oddL at lD2 d6 d7 d8 d12 d13 d14 d15 d16 d17 d18 d19 d20); (try simp only [List.nil_append, List.cons_append] at ND); (try k_fold)))
  k_steps
  · dsimp only [RebPost]
    refine' ⟨_, _, _, _, _, _, _, _, rfl, ?zF, ?zN, ?zm, ?zf, ?zo, ?zn, ?zi, ?zy, ?zz, ?zp⟩
    (case zF => assumption)
    (case zN => assumption)
    (case zy => with_unfolding_all rfl)
    (case zm => k_mem)
    (case zi => assumption)
    (case zp => exact u7)
    (case zf => exact List.forall_mem_nil _)
    (case zo => (intro p9 h9; kst_mem))
    (case zn => (refine' ne_own ?na ?nb; (case na => assumption); (case nb => (intro p9 h9; kst_mem))))
    (case zz => (intro z h1 h2 h3; simp [h1, h2]))
  · dsimp only [RebPost]
    refine' ⟨_, _, _, _, _, _, _, _, rfl, ?zF, ?zN, ?zm, ?zf, ?zo, ?zn, ?zi, ?zy, ?zz, ?zp⟩
    (case zF => assumption)
    (case zN => assumption)
    (case zy => with_unfolding_all rfl)
    (case zm => k_mem)
    (case zi => assumption)
    (case zp => exact d21)
    (case zf => kst_in)
    (case zo => (intro p9 h9; kst_mem))
    (case zn => (refine' ne_own ?na ?nb; (case na => assumption); (case nb => (intro p9 h9; kst_mem))))
    (case zz => (intro z h1 h2 h3; (simp only [List.contains_cons, List.contains_nil, Bool.or_false, Bool.or_eq_false_iff, beq_eq_false_iff_ne, ne_eq] at h3); (simp [h1, h2, h3]))))
end Mine

theorem PySem.Challenge.cw_xm0400_01_holds : PySem.Challenge.rw_xm0400_01.Holds :=
  Mine.cw

