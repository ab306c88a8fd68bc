import PyProof.Rows.All
import Wide.All
import OpenK.AllK
import Wide.FinOn
import PySem.Challenge.RW_sa0091_01
open PySem PySem.W PyProof.Rows PySem.Calls
set_option Elab.async false
set_option maxRecDepth 100000
set_option maxHeartbeats 8000000
namespace Mine
open_top hd for PySem.Challenge.rw_sa0091_01

abbrev Q2 := Int × Int
noncomputable def okN (x : Int) : Bool := decide (-1152921504606846976 < x) && decide (x < 1152921504606846976)
theorem okN_lo {x : Int} (h : okN x = true) : -1152921504606846976 < x := by simp [okN] at h; exact h.1
theorem okN_hi {x : Int} (h : okN x = true) : x < 1152921504606846976 := by simp [okN] at h; exact h.2
noncomputable def okB (x : Int) : Bool := decide (x.natAbs < 1606938044258990275541962092341162602522202993782792835301376)
noncomputable def ratF (t b : Int) : Option Q2 := if b = 0 ∨ okB b = false then none else some (if 0 < b then (t.fdiv (Int.gcd t b), b.fdiv (Int.gcd t b)) else (t.fdiv (0 - (Int.gcd t b : Int)), b.fdiv (0 - (Int.gcd t b : Int))))
noncomputable def raddF (p q : Q2) : Option Q2 := if (okN p.1 && okN q.1 && okN p.2) = true then ratF (p.1 * q.2 + q.1 * p.2) (p.2 * q.2) else none
noncomputable def rsubF (p q : Q2) : Option Q2 := if (okN p.1 && okN q.1 && okN p.2) = true then ratF (p.1 * q.2 - q.1 * p.2) (p.2 * q.2) else none
noncomputable def rmulF (p q : Q2) : Option Q2 := if (okN p.1 && okN p.2) = true then ratF (p.1 * q.1) (p.2 * q.2) else none
noncomputable def rdivF (p q : Q2) : Option Q2 := if (okN p.1 && okN p.2) = true then ratF (p.1 * q.2) (p.2 * q.1) else none
noncomputable def letF (p : Q2) : Option Q2 := if (okN p.1 && okN p.2) = true then some p else none
/-- n turns, the loop's int from k on -/
noncomputable def loopO {σ : Type} (f : Int → σ → Option σ) : Nat → Int → σ → Option σ
  | 0, _, c => some c
  | n + 1, k, c => (f k c).bind (loopO f n (k + 1))
noncomputable def gt (qs : List Q2) (k : Int) : Q2 := qs.getD k.toNat (0, 1)
/-- a comprehension over n turns -/
noncomputable def compO (f : Int → Option Q2) : Nat → Int → Option (List Q2)
  | 0, _ => some []
  | n + 1, k => (f k).bind fun q => (compO f n (k + 1)).map (q :: ·)
noncomputable def mixedF (a b : List Q2) (at' : Int) : Option Q2 :=
  loopO (fun k c => if gt a k ≠ (0, 1) ∧ gt b (at' - k) ≠ (0, 1) then (rmulF (gt a k) (gt b (at' - k))).bind (raddF c) else some c) (at' + 1).toNat 0 (0, 1)
noncomputable def smulF (a b : List Q2) : Option (List Q2) := compO (fun k => (mixedF a b k).bind letF) (min a.length b.length) 0
noncomputable def sinvF (a : List Q2) : Option (List Q2) :=
  if a.length > 0 ∧ gt a 0 = (0, 1) then none else
  loopO (fun at' found => if (found.length : Int) = at' then (loopO (fun k c => (rmulF (gt a k) (gt found (at' - k))).bind (rsubF c)) at'.toNat 1 (if at' = 0 then (1, 1) else (0, 1))).bind fun total =>
    (rdivF total (gt a 0)).bind fun x => (letF x).map fun y => found ++ [y] else none) a.length 0 []
noncomputable def sderF (a : List Q2) : Option (List Q2) := compO (fun k => rmulF (k, 1) (gt a k)) (a.length - 1) 1
noncomputable def sintF (a : List Q2) : Option (List Q2) := (compO (fun k => rdivF (gt a k) (k + 1, 1)) a.length 0).map ((0, 1) :: ·)
noncomputable def begF (a : List Q2) (q : Q2) : Bool := a.length == 0 || (okN (gt a 0).1 && okN q.1 && (gt a 0).1 * q.2 - q.1 * (gt a 0).2 == 0)
noncomputable def sexpF (a : List Q2) : Option (List Q2) :=
  if begF a (0, 1) = false then none else
  loopO (fun at' found => if (found.length : Int) = at' then (loopO (fun k c => (rmulF (k, 1) (gt a k)).bind fun x => (rmulF x (gt found (at' - k))).bind (raddF c)) at'.toNat 1 (0, 1)).bind fun total =>
    if at' = 0 then some (found ++ [(1, 1)]) else (rdivF total (at', 1)).bind fun x => (letF x).map fun y => found ++ [y] else none) a.length 0 []
/-- of a length that we take -/
noncomputable def chk (o : Option (List Q2)) : Option (List Q2) := o.bind fun l => if 0 < l.length ∧ l.length < 64 then some l else none
theorem chk_some {o : Option (List Q2)} {l : List Q2} (h : chk o = some l) : o = some l ∧ 0 < l.length ∧ l.length < 64 := by
  unfold chk at h
  obtain ⟨l', h1, h2⟩ := Option.bind_eq_some_iff.mp h
  split at h2
  · rename_i hc; cases h2; exact ⟨h1, hc⟩
  · cases h2
noncomputable def slogF (a : List Q2) : Option (List Q2) :=
  if begF a (1, 1) = false then none else if a.length = 0 then none else
  (chk (sderF a)).bind fun d => (chk (sinvF a)).bind fun i => (chk (smulF d i)).bind sintF
noncomputable def spowF (a : List Q2) (r : Q2) : Option (List Q2) :=
  if begF a (1, 1) = false then none else
  loopO (fun at' found => if (found.length : Int) = at' then (loopO (fun k c => (rmulF r (k, 1)).bind fun w => (rsubF w (at' - k, 1)).bind fun times => (rmulF times (gt a k)).bind fun x => (rmulF x (gt found (at' - k))).bind (raddF c)) at'.toNat 1 (0, 1)).bind fun total =>
    if at' = 0 then some (found ++ [(1, 1)]) else (rdivF total (at', 1)).bind fun x => (letF x).map fun y => found ++ [y] else none) a.length 0 []
noncomputable def cutF (n : Nat) : List Q2 := (1, 1) :: List.replicate (n - 1) (0, 1)
/-- swhole_power, many from 1 to 3 -/
noncomputable def swpF (a : List Q2) (k : Nat) : Option (List Q2) :=
  match k with
  | 1 => smulF (cutF a.length) a
  | 2 => (chk (smulF a a)).bind fun b => smulF (cutF a.length) b
  | 3 => (chk (smulF (cutF a.length) a)).bind fun f => (chk (smulF a a)).bind fun b => smulF f b
  | _ => none
noncomputable def frontF (n : Nat) : List Q2 := (0, 1) :: (1, 1) :: List.replicate (n - 2) (0, 1)
noncomputable def oneXF (n : Nat) : List Q2 := (1, 1) :: (1, 1) :: List.replicate (n - 2) (0, 1)
noncomputable def lowF (t b : Int) : Q2 := (t.fdiv (Int.gcd t b), b.fdiv (Int.gcd t b))
noncomputable def lowO (t b : Int) : Option Q2 := if 0 < b ∧ okB b = true then some (lowF t b) else none
/-- the text's factorials, n from 0 to 5 -/
noncomputable def factF (n : Int) : Int := if n ≤ 1 then 1 else if n = 2 then 2 else if n = 3 then 6 else if n = 4 then 24 else 120

local macro_rules | `(tactic| walk_at $s:str) => `(tactic| k_extra $s)

section
theorem lt_ble {n m : Nat} (h : Nat.ble (n + 1) m = true) : n < m := Nat.le_of_ble_eq_true h
theorem room_lt {dp a b : Nat} (h : dp + a < recursionLimit) (e : Nat.ble (1 + b) a = true) : dp + 1 + b < recursionLimit :=
  Nat.lt_of_le_of_lt (by rw [Nat.add_assoc]; exact Nat.add_le_add_left (Nat.le_of_ble_eq_true e) dp) h
theorem room_lt0 {dp a : Nat} (h : dp + a < recursionLimit) : dp < recursionLimit := Nat.lt_of_le_of_lt (Nat.le_add_right _ _) h
theorem unit_lt {un a b : Nat} (h : un + a < cLine) (e : Nat.ble (3 + b) a = true) : un + 3 + b < cLine :=
  Nat.lt_of_le_of_lt (by rw [Nat.add_assoc]; exact Nat.add_le_add_left (Nat.le_of_ble_eq_true e) un) h
theorem sub_succ {n i : Nat} (h : i < n) : ∃ j, n - i = j + 1 := Nat.exists_eq_succ_of_ne_zero (Nat.sub_ne_zero_of_lt h)
theorem succ_toNat {k : Int} (h : 0 ≤ k) : (k + 1).toNat = k.toNat + 1 := Int.toNat_add h (by decide)
theorem pred_toNat {k : Int} (h : 0 < k) : k.toNat = (k - 1).toNat + 1 := by
  have := succ_toNat (k := k - 1) (Int.sub_nonneg_of_le h)
  rw [Int.sub_add_cancel] at this
  exact this
theorem nat_toNat1 (n : Nat) : n - 1 = ((n : Int) - 1).toNat := (Int.toNat_sub n 1).symm
theorem nat_toNat0 (n : Nat) : n = ((n : Int) - 0).toNat := by rw [Int.sub_zero]; rfl
theorem int_mem9 {x : Int} (h0 : 0 ≤ x) (h1 : x < 9) : x ∈ [(0 : Int), 1, 2, 3, 4, 5, 6, 7, 8] := by
  obtain ⟨n, rfl⟩ := Int.eq_ofNat_of_zero_le h0
  exact (by decide : ∀ n : Fin 9, ((n.1 : Nat) : Int) ∈ [(0 : Int), 1, 2, 3, 4, 5, 6, 7, 8]) ⟨n, Int.ofNat_lt.mp h1⟩
theorem int_mem3 {y : Int} (h0 : 0 ≤ y) (h1 : y < 3) : 1 + y ∈ [(1 : Int), 2, 3] := by
  obtain ⟨n, rfl⟩ := Int.eq_ofNat_of_zero_le h0
  exact (by decide : ∀ n : Fin 3, 1 + ((n.1 : Nat) : Int) ∈ [(1 : Int), 2, 3]) ⟨n, Int.ofNat_lt.mp h1⟩
theorem small_nat {n : Nat} (h : n < 64) : -1000 ≤ (0 : Int) ∧ (0 : Int) ≤ 1000 ∧ -1000 ≤ (n : Int) ∧ (n : Int) ≤ 1000 := ⟨by decide, by decide, by omega, by omega⟩

end

section



/-- what the caller asks behind the call -/
noncomputable def ConRet (Out : Heap → Heap → Value → Prop) (s : Shared) (Q : Value → Shared → Prop) : Prop :=
  ∀ r h' tk', (∀ b o, s.heap.get? b = some o → h'.get? b = some o) → Out s.heap h' r → Q r { s with heap := h', toks := tk' }
/-- a def's contract: from any caller, the call keeps the whole heap and hands back what Out says -/
noncomputable def Con (f : Addr) (kk : Nat) (vs : List Value) (Pre : Heap → Prop) (Out : Heap → Heap → Value → Prop) : Prop :=
  ∀ (w : World) (mean : ExcName → Option Value) (mg mb : Str → Option Value) (dp un : Nat) (gd : Option (List Code)) (cn : Str) (cs : Scope) (a : Addr) (ccd : Value) (cl : List (Str × Addr))
    (outer : List Env) (A₀ : Around) (base h₀ : Heap) (L : Addr) (m : Str → Option Value) (s : Shared) (Q E : Value → Shared → Prop),
    Below A₀ base outer h₀ → Fr h₀ L s.heap m → (hd.heap_39 w.params).In h₀ → Top hd.view_39 (looseW hd.view_39 []) mean mg mb h₀ → cs.kind = .function → Pre s.heap →
    dp + kk < recursionLimit → un + 8 * kk < cLine →
    ConRet Out s Q →
    wpAny (model PySem.Challenge.rw_sa0091_01.row.prog w) (ktrTop dp un gd cn cs L a ccd cl outer) (call (.ref f) vs) Q E s

theorem con_use {f : Addr} {kk : Nat} {vs : List Value} {Pre : Heap → Prop} {Out : Heap → Heap → Value → Prop} (C : Con f kk vs Pre Out)
    {w : World} {mean : ExcName → Option Value} {mg mb : Str → Option Value} {dp un : Nat} {gd : Option (List Code)} {cn : Str} {cs : Scope} {a : Addr} {ccd : Value} {cl : List (Str × Addr)}
    {outer : List Env} {A₀ : Around} {base h₀ : Heap} {L : Addr} {m : Str → Option Value} {news : List (Addr × Obj)} {s : Shared} {Q E : Value → Shared → Prop}
    (B : Below A₀ base outer h₀) (F : Fr h₀ L s.heap m) (X : (hd.heap_39 w.params).In h₀) (N : News h₀ L s.heap news) (T : Top hd.view_39 (looseW hd.view_39 []) mean mg mb h₀) (hk : cs.kind = .function) (P : Pre s.heap)
    (hd : dp + kk < recursionLimit) (hu : un + 8 * kk < cLine)
    (ret : ∀ r h' tk', (∀ b o, s.heap.get? b = some o → h'.get? b = some o) → Fr h₀ L h' m → News h₀ L h' news → Out s.heap h' r → Q r { s with heap := h', toks := tk' }) :
    wpAny (model PySem.Challenge.rw_sa0091_01.row.prog w) (ktrTop dp un gd cn cs L a ccd cl outer) (call (.ref f) vs) Q E s :=
  C _ _ _ _ _ _ _ _ _ _ _ _ _ _ _ _ _ _ _ _ _ B F X T hk P hd hu fun r h' tk' k o => ret r h' tk' k (F.keeps k) (N.grown k) o


theorem gcd_emod (a b : Int) : Int.gcd b (a % b) = Int.gcd a b := by
  rw [Int.gcd_comm a b]
  have h : a % b = a + b * (-(a / b)) := by have := Int.emod_add_mul_ediv a b; rw [Int.mul_neg]; omega
  rw [h, Int.gcd_add_mul_left_right]
theorem gcd_step {a b x y : Int} (hb : 0 ≤ b) (hb' : b ≠ 0) (h : (Int.gcd a b : Int) = Int.gcd x y) : 0 ≤ b ∧ 0 ≤ Int.fmod a b ∧ (Int.gcd b (Int.fmod a b) : Int) = Int.gcd x y := by
  refine ⟨hb, Int.fmod_nonneg_of_pos _ (by omega), ?_⟩
  rw [← h, Int.fmod_eq_emod_of_nonneg _ hb]
  exact congrArg _ (gcd_emod a b)
theorem gcd_start (x y : Int) : 0 ≤ (if x < 0 then -x else x) ∧ 0 ≤ (if y < 0 then -y else y) ∧ (Int.gcd (if x < 0 then -x else x) (if y < 0 then -y else y) : Int) = Int.gcd x y := by
  refine ⟨by split <;> omega, by split <;> omega, ?_⟩
  split <;> split <;> simp [Int.gcd_neg, Int.neg_gcd]
theorem gcd_fin {a b x y : Int} (h : (Int.gcd a b : Int) = Int.gcd x y) (hb : b = 0) (ha : 0 ≤ a) : (Int.gcd x y : Int) = a := by
  subst hb
  rw [← h, Int.gcd_zero_right]
  omega
theorem gcd_less {a b : Int} (hb : 0 ≤ b) (hb' : b ≠ 0) : (Int.fmod a b).toNat < b.toNat := by
  have h1 := Int.fmod_lt_of_pos a (show (0:Int) < b by omega)
  have h2 := Int.fmod_nonneg_of_pos a (show (0:Int) < b by omega)
  omega


/-- a tuple of two ints, new -/
noncomputable def OutQ (q : Q2) (h h' : Heap) (r : Value) : Prop := ∃ D t u c, r = .ref D ∧ h.get? D = none ∧ h'.get? D = some ({ cls := .type "tuple", data := .seq #[.int q.1 t, .int q.2 u] c } : Obj)
theorem con_useQ {f : Addr} {kk : Nat} {vs : List Value} {Pre : Heap → Prop} {q : Q2} (C : Con f kk vs Pre (OutQ q))
    {w : World} {mean : ExcName → Option Value} {mg mb : Str → Option Value} {dp un : Nat} {gd : Option (List Code)} {cn : Str} {cs : Scope} {a : Addr} {ccd : Value} {cl : List (Str × Addr)}
    {outer : List Env} {A₀ : Around} {base h₀ : Heap} {L : Addr} {m : Str → Option Value} {news : List (Addr × Obj)} {s : Shared} {Q E : Value → Shared → Prop}
    (B : Below A₀ base outer h₀) (F : Fr h₀ L s.heap m) (X : (hd.heap_39 w.params).In h₀) (N : News h₀ L s.heap news) (T : Top hd.view_39 (looseW hd.view_39 []) mean mg mb h₀) (hk : cs.kind = .function) (P : Pre s.heap)
    (hd : dp + kk < recursionLimit) (hu : un + 8 * kk < cLine)
    (ret : ∀ D t u c h' tk', (∀ b o, s.heap.get? b = some o → h'.get? b = some o) → Fr h₀ L h' m → News h₀ L h' ((D, ({ cls := .type "tuple", data := .seq #[.int q.1 t, .int q.2 u] c } : Obj)) :: news) → (∀ p ∈ news, p.1 ≠ D) → Q (.ref D) { s with heap := h', toks := tk' }) :
    wpAny (model PySem.Challenge.rw_sa0091_01.row.prog w) (ktrTop dp un gd cn cs L a ccd cl outer) (call (.ref f) vs) Q E s :=
  con_use C B F X N T hk P hd hu fun r h' tk' k F' N' o => by
    obtain ⟨D, t, u, c, rfl, hn, ho⟩ := o
    refine ret D t u c h' tk' k F' (fun p hp => ?_) fun p hp e => ?_
    · rcases List.mem_cons.mp hp with rfl | hp
      · refine ⟨ho, fun e => ?_, ?_⟩
        · obtain ⟨oL, _, _, hL, _⟩ := F.ns
          have e' : D = L := e
          rw [e', hL] at hn; cases hn
        · cases e : h₀.get? D with
          | none => rfl
          | some o => rw [F.keep _ _ e] at hn; cases hn
      · exact N' p hp
    · rw [← e, (N p hp).1] at hn; cases hn

/-- a def's end -/
noncomputable def ConEnd (s : Shared) (g : Heap) (L : Addr) (Out : Heap → Heap → Value → Prop) (fl : Flow) (s' : Shared) : Prop :=
  ∃ h' tk' m' news', s' = { s with heap := h', toks := tk' } ∧ Fr g L h' m' ∧ News g L h' news' ∧ Out s.heap h' (match fl with | .ret v => v | _ => .none)
theorem conEnd {s s₁ : Shared} {g h : Heap} {L : Addr} {Out : Heap → Heap → Value → Prop} {v : Value} {m' : Str → Option Value} {news : List (Addr × Obj)} {tk : Nat} (hs : s₁ = { s with heap := h, toks := tk }) (F : Fr g L h m') (N : News g L h news) (o : Out s.heap h v) :
    ConEnd s g L Out (.ret v) s₁ := ⟨h, tk, m', news, hs, F, N, o⟩
theorem conEndN {s s₁ : Shared} {g h : Heap} {L : Addr} {Out : Heap → Heap → Value → Prop} {m' : Str → Option Value} {news : List (Addr × Obj)} {tk : Nat} (hs : s₁ = { s with heap := h, toks := tk }) (F : Fr g L h m') (N : News g L h news) (o : Out s.heap h .none) :
    ConEnd s g L Out .next s₁ := ⟨h, tk, m', news, hs, F, N, o⟩
theorem fresh_of {sh g h : Heap} {L D : Addr} {o : Obj} {news : List (Addr × Obj)} (keep0 : ∀ b o, sh.get? b = some o → g.get? b = some o) (N : News g L h news) (hm : (D, o) ∈ news) : sh.get? D = none := by
  cases e : sh.get? D with
  | none => rfl
  | some o => have h1 := keep0 _ _ e; have h2 := (N _ hm).2.2; rw [h1] at h2; cases h2
theorem conEndQ {s s₁ : Shared} {q : Q2} {g h : Heap} {L D : Addr} {m' : Str → Option Value} {news : List (Addr × Obj)} {t u : Tok} {c tk : Nat} (keep0 : ∀ b o, s.heap.get? b = some o → g.get? b = some o)
    (hs : s₁ = { s with heap := h, toks := tk }) (F : Fr g L h m') (N : News g L h news) (hm : (D, ({ cls := .type "tuple", data := .seq #[.int q.1 t, .int q.2 u] c } : Obj)) ∈ news) : ConEnd s g L (OutQ q) (.ret (.ref D)) s₁ :=
  conEnd hs F N ⟨D, t, u, c, rfl, fresh_of keep0 N hm, N.get hm⟩

theorem lookup_kstB (ps : List (Str × Value)) (y : Str) : ps.lookup y = kstB (fun _ => none) ps y := by
  induction ps with
  | nil => rfl
  | cons p r ih =>
    show (match y == p.1 with | true => some p.2 | false => r.lookup y) = if y = p.1 then some p.2 else kstB (fun _ => none) r y
    by_cases e : y = p.1
    · rw [if_pos e, beq_iff_eq.mpr e]
    · rw [if_neg e, ← ih, beq_eq_false_iff_ne.mpr e]

theorem code_con {prog : Program} {w : World} {A₀ A : Around} {s : Shared} {base h₀ : Heap} {outer : List Env} {L : Addr} {m : Str → Option Value} {env : Env} {K : Frag} {p : Program} {loose : List Str} {mean : ExcName → Option Value} {mg mb : Str → Option Value}
    {name qual : Str} {params : Arguments} {body : List Stmt} {scope : Scope} {dV kV doc pm cdv ct oc : Value} {an od : Option Addr} {osl : Array (Option Value)} {f : Addr} {args : Args} {Q E : Value → Shared → Prop} {Out : Heap → Heap → Value → Prop} (binds : List (Str × Value))
    (B : Below A₀ base outer h₀) (F : Fr h₀ L s.heap m) (X₀ : K.In h₀) (T : Top p loose mean mg mb h₀) (hA : A.frames = some (env :: outer)) (hf : env.frame = some L) (hke : env.scope.kind = .function)
    (ho : K.lookup f = some ⟨oc, od, .func (fnOf name qual params body scope dV kV doc pm an cdv ct), osl⟩) (hcd : codeIn K cdv qual = true) (hroom : A.depth < recursionLimit)
    (hbind : BindsTo s (fnOf name qual params body scope dV kV doc pm an cdv ct) args binds) (hloc : ∀ y ∈ binds, scope.names.lookup y.1 = some .local)
    (ret : ConRet Out s Q)
    (h : ∀ g L' h₁ tk, Fr g L' h₁ (kstB (fun _ => none) binds.reverse) → News g L' h₁ [] → Below A base (env :: outer) g → K.In g → Top p loose mean mg mb g → (∀ b o, s.heap.get? b = some o → g.get? b = some o) →
      wpAny (model prog w) (A.deeper (envOf qual scope L' f cdv)) (execs body (envOf qual scope L' f cdv)) (ConEnd s g L' Out) (fun _ _ => False) { s with heap := h₁, toks := tk })
    (hco : scope.isCoroutine = false) (hgen : scope.isGenerator = false) (hk : scope.kind = .function)
    (hcell : ∀ x ∈ scope.names, x.2 ≠ .cell) : codeAny (model prog w) A (.call (.ref f) args) (fun r s' => match r with | .ok (.ret v) => Q v s' | .ok _ => False | .error e => E e s') s := by
  refine code_defG B F X₀ News.nil T hA hf hke ho hcd hroom hbind hloc (fun g L' h₁ FG F' N' B' X' T' G => ?_) hco hgen hk hcell
  have keep0 : ∀ b o, s.heap.get? b = some o → g.get? b = some o := fun b o e => G b o e (by simp)
  refine wpAny_mono (h g L' h₁ _ (by rw [← funext (lookup_kstB binds.reverse)]; exact F') N' B' X' T' keep0) (fun fl s' he => ?_) fun _ _ x => x.elim
  obtain ⟨h', tk', m', news', rfl, F₁, N₁, o⟩ := he
  exact leaveK_ F₁ N₁ fun _ _ => ret _ _ _ (fun b o e => F₁.keep b o (keep0 b o e)) o

theorem con_gcd (x y : Int) (t u : Tok) : Con 41 1 [.int x t, .int y u] (fun _ => True) (fun _ _ r => ∃ t, r = .int (Int.gcd x y) t) := by
  unfold Con
  k_fill
  intro w mean mg mb dp un gd cn cs aa ccd cl outer A₀ base h₀ L m s Q E B F X T hk P hdp hun ret
  refine wpAny_call ?_
  k_dflt (refine' code_con [(Str.ofString "a", .int x t), (Str.ofString "b", .int y u)] ?k1 ?k2 ?k3 ?k5 ?kA ?kF ?kK ?k6 ?k7 ?k8 ?k9 ?kB ret ?_ ?c2 ?c3 ?c4 ?c5; (case kA => exact rfl); (case kF => exact rfl); (case kK => assumption); (case k1 => k_asm); (case k2 => k_asm); (case k3 => k_asm); (case k5 => k_asm); (case k6 => k_is); (case k7 => k_is); (case k8 => (first | exact room_lt hdp (by rfl) | exact room_lt0 hdp | exact lt_ble (by rfl) | ktr_room)); (case k9 => exact BindsTo.of_eq rfl); (case c5 => decide); (case kB => exact locs rfl); (case c2 => exact rfl); (case c3 => exact rfl); (case c4 => exact rfl); k_whole; intro g' L' h' tk0 F' N' B' X' T' keep0; (try dsimp only))
  clear ret B F T
  (try simp only [List.reverse_cons, List.reverse_nil, List.nil_append, List.cons_append, kstB] at F')
  k_with_none
  k_with "exec While Compare cons nil" => k_while (fun _ (a b : Int) => 0 ≤ a ∧ 0 ≤ b ∧ (Int.gcd a b : Int) = Int.gcd x y) (fun _ (a b : Int) => b.toNat) "a" "b"
  k_with "state" => exact gcd_step (by k_asm) (by k_asm) (by k_asm)
  k_with "state" => exact gcd_start _ _
  k_with "measure" => exact gcd_less (by k_asm) (by k_asm)
  (try dsimp only)
  (try (with_reducible show wpAny _ _ _ _ _ _))
  (try k_fold)
  k_steps
  all_goals first
    | exact conEnd rfl (by k_asm) (by k_asm) ⟨_, congrArg (fun z => Value.int z _) (Eq.symm (gcd_fin (by k_asm) (by k_asm) (by k_asm)))⟩
    | w_report

end

section


theorem gcd_ne {t b : Int} (hb : ¬ b = 0) : (Int.gcd t b : Int) ≠ 0 := by
  intro h
  have : Int.gcd t b = 0 := by omega
  rw [Int.gcd_eq_zero_iff] at this
  exact hb this.2
theorem gcd_py {t b : Int} (hb : ¬ b = 0) (h : okB b = true) {z g : Int} (hg : g.natAbs = Int.gcd t b) : Builtin.divisionGoesByPylong z g = false := by
  refine PyProof.noPylong_of_log2 ?_
  rw [hg]
  have h1 : Int.gcd t b ≤ b.natAbs := Nat.le_of_dvd (by omega) (Int.gcd_dvd_natAbs_right t b)
  have h2 : b.natAbs < 2 ^ 200 := by
    have := of_decide_eq_true h
    rw [show (2:Nat) ^ 200 = 1606938044258990275541962092341162602522202993782792835301376 by decide +kernel]
    exact this
  have h3 : Int.gcd t b ≠ 0 := by have := gcd_ne (t := t) hb; omega
  have := (Nat.log2_lt h3).mpr (Nat.lt_of_le_of_lt h1 h2)
  omega
theorem ratF_ne {x y : Int} {q : Q2} (hq : ratF x y = some q) : ¬ y = 0 ∧ okB y = true := by
  unfold ratF at hq
  split at hq
  · cases hq
  · rename_i h; simpa using h
theorem ratF_pos {x y : Int} {q : Q2} (hq : ratF x y = some q) (h : 0 < y) : q = (x.fdiv (Int.gcd x y), y.fdiv (Int.gcd x y)) := by
  have := ratF_ne hq
  unfold ratF at hq
  rw [if_neg (by simp [this]), if_pos h] at hq
  exact (Option.some.inj hq).symm
theorem ratF_neg {x y : Int} {q : Q2} (hq : ratF x y = some q) (h : ¬ 0 < y) : q = (x.fdiv (0 - (Int.gcd x y : Int)), y.fdiv (0 - (Int.gcd x y : Int))) := by
  have := ratF_ne hq
  unfold ratF at hq
  rw [if_neg (by simp [this]), if_neg h] at hq
  exact (Option.some.inj hq).symm
theorem con_rat (x y : Int) (tx ty : Tok) (q : Q2) (hq : ratF x y = some q) : Con 57 2 [.int x tx, .int y ty] (fun _ => True) (OutQ q) := by
  unfold Con
  k_fill
  intro w mean mg mb dp un gd cn cs aa ccd cl outer A₀ base h₀ L m s Q E B F X T hk P hdp hun ret
  refine wpAny_call ?_
  k_dflt (refine' code_con [(Str.ofString "top", .int x tx), (Str.ofString "bottom", .int y ty)] ?k1 ?k2 ?k3 ?k5 ?kA ?kF ?kK ?k6 ?k7 ?k8 ?k9 ?kB ret ?_ ?c2 ?c3 ?c4 ?c5; (case kA => exact rfl); (case kF => exact rfl); (case kK => assumption); (case k1 => k_asm); (case k2 => k_asm); (case k3 => k_asm); (case k5 => k_asm); (case k6 => k_is); (case k7 => k_is); (case k8 => (first | exact room_lt hdp (by rfl) | exact room_lt0 hdp | exact lt_ble (by rfl) | ktr_room)); (case k9 => exact BindsTo.of_eq rfl); (case c5 => decide); (case kB => exact locs rfl); (case c2 => exact rfl); (case c3 => exact rfl); (case c4 => exact rfl); k_whole; intro g' L' h' tk0 F' N' B' X' T' keep0; (try dsimp only))
  clear ret B F T
  (try simp only [List.reverse_cons, List.reverse_nil, List.nil_append, List.cons_append, kstB] at F')
  k_with_none
  k_with "call ref" => (k_here; k_dflt (refine' con_use (con_gcd _ _ _ _) ?zzk1 ?zzk2 ?zzk3 ?zzk4 ?zzk5 ?zzkK ?zzkp ?zzkd ?zzku ?_; (case zzk1 => k_asm); (case zzk2 => k_asm); (case zzk3 => k_asm); (case zzk4 => k_asm); (case zzk5 => k_asm); (case zzkK => first | exact rfl | assumption); (case zzkp => exact True.intro); (case zzkd => (first | exact room_lt hdp (by rfl) | exact room_lt0 hdp | exact lt_ble (by rfl) | ktr_room)); (case zzku => (first | exact unit_lt hun (by rfl) | exact lt_ble (by rfl) | ktr_units))); intro r9 h9 tk9 k9 F9 N9 ho9; (obtain ⟨t9, e9⟩ := ho9); subst e9; clear k9; (try k_sweep); (try dsimp only); (try k_fold))
  k_with "binaryOp FloorDiv int int" => ((with_reducible refine floordiv_int ?_ ?_ (Or.inl ?_)); (assumption); rotate_left; (assumption))
  have hy := (ratF_ne hq).1
  have hB := (ratF_ne hq).2
  have hg : (Int.gcd x y : Int) ≠ 0 := gcd_ne hy
  have hg2 : (0 - (Int.gcd x y : Int)) ≠ 0 := by omega
  have p1 : Builtin.divisionGoesByPylong x (Int.gcd x y) = false := gcd_py hy hB (t := x) (Int.natAbs_natCast _)
  have p2 : Builtin.divisionGoesByPylong y (Int.gcd x y) = false := gcd_py hy hB (t := x) (Int.natAbs_natCast _)
  have p3 : Builtin.divisionGoesByPylong x (0 - (Int.gcd x y : Int)) = false := gcd_py hy hB (t := x) (by rw [Int.zero_sub, Int.natAbs_neg]; exact Int.natAbs_natCast _)
  have p4 : Builtin.divisionGoesByPylong y (0 - (Int.gcd x y : Int)) = false := gcd_py hy hB (t := x) (by rw [Int.zero_sub, Int.natAbs_neg]; exact Int.natAbs_natCast _)
  clear hB
  (try dsimp only)
  (try (with_reducible show wpAny _ _ _ _ _ _))
  (try k_fold)
  k_steps
  all_goals first
    | (exfalso; omega)
    | (have e := ratF_pos hq (by k_asm); subst e; exact conEndQ keep0 rfl (by k_asm) (by k_asm) (by k_mem))
    | (have e := ratF_neg hq (by k_asm); subst e; exact conEndQ keep0 rfl (by k_asm) (by k_asm) (by k_mem))

end

section


theorem con_radd (x₁ y₁ x₂ y₂ : Int) (a b : Addr) (t₁ t₂ t₃ t₄ : Tok) (q : Q2) (hq : raddF (x₁, y₁) (x₂, y₂) = some q) :
    Con 64 3 [.ref a, .ref b] (fun h => IsTup h a #[.int x₁ t₁, .int y₁ t₂] ∧ IsTup h b #[.int x₂ t₃, .int y₂ t₄]) (OutQ q) := by
  unfold Con
  k_fill
  intro w mean mg mb dp un gd cn cs aa ccd cl outer A₀ base h₀ L m s Q E B F X T hk P hdp hun ret
  refine wpAny_call ?_
  k_dflt (refine' code_con [(Str.ofString "a", .ref a), (Str.ofString "b", .ref b)] ?k1 ?k2 ?k3 ?k5 ?kA ?kF ?kK ?k6 ?k7 ?k8 ?k9 ?kB ret ?_ ?c2 ?c3 ?c4 ?c5; (case kA => exact rfl); (case kF => exact rfl); (case kK => assumption); (case k1 => k_asm); (case k2 => k_asm); (case k3 => k_asm); (case k5 => k_asm); (case k6 => k_is); (case k7 => k_is); (case k8 => (first | exact room_lt hdp (by rfl) | exact room_lt0 hdp | exact lt_ble (by rfl) | ktr_room)); (case k9 => exact BindsTo.of_eq rfl); (case c5 => decide); (case kB => exact locs rfl); (case c2 => exact rfl); (case c3 => exact rfl); (case c4 => exact rfl); k_whole; intro g' L' h' tk0 F' N' B' X' T' keep0; (try dsimp only))
  clear ret B F T
  (try simp only [List.reverse_cons, List.reverse_nil, List.nil_append, List.cons_append, kstB] at F')
  k_with_none
  k_with "call ref" => (k_here; k_dflt (refine' con_useQ (con_rat _ _ _ _ _ ?zzhq) ?zzk1 ?zzk2 ?zzk3 ?zzk4 ?zzk5 ?zzkK ?zzkp ?zzkd ?zzku ?_; (case zzk1 => k_asm); (case zzk2 => k_asm); (case zzk3 => k_asm); (case zzk4 => k_asm); (case zzk5 => k_asm); (case zzkK => first | exact rfl | assumption); (case zzkp => exact True.intro); (case zzkd => (first | exact room_lt hdp (by rfl) | exact room_lt0 hdp | exact lt_ble (by rfl) | ktr_room)); (case zzku => (first | exact unit_lt hun (by rfl) | exact lt_ble (by rfl) | ktr_units)); (case zzhq => assumption)); intro D9 t9 u9 c9 h9 tk9 k9 F9 N9 l9; clear k9; (try k_sweep); (try dsimp only); (try k_fold))
  have Pa := P.1.keeps keep0
  have Pb := P.2.keeps keep0
  unfold raddF at hq
  dsimp only at hq
  split at hq
  case isFalse => cases hq
  rename_i hc
  simp only [Bool.and_eq_true] at hc
  have i1 := okN_lo hc.1.1
  have i2 := okN_hi hc.1.1
  have i3 := okN_lo hc.2
  have i4 := okN_hi hc.2
  have i5 := okN_lo hc.1.2
  have i6 := okN_hi hc.1.2
  clear hc P
  (try dsimp only)
  (try (with_reducible show wpAny _ _ _ _ _ _))
  (try k_fold)
  k_steps
  all_goals first
    | exact conEndQ keep0 rfl (by k_asm) (by k_asm) (by k_mem)
    | w_report

theorem con_rsub (x₁ y₁ x₂ y₂ : Int) (a b : Addr) (t₁ t₂ t₃ t₄ : Tok) (q : Q2) (hq : rsubF (x₁, y₁) (x₂, y₂) = some q) :
    Con 71 3 [.ref a, .ref b] (fun h => IsTup h a #[.int x₁ t₁, .int y₁ t₂] ∧ IsTup h b #[.int x₂ t₃, .int y₂ t₄]) (OutQ q) := by
  unfold Con
  k_fill
  intro w mean mg mb dp un gd cn cs aa ccd cl outer A₀ base h₀ L m s Q E B F X T hk P hdp hun ret
  refine wpAny_call ?_
  k_dflt (refine' code_con [(Str.ofString "a", .ref a), (Str.ofString "b", .ref b)] ?k1 ?k2 ?k3 ?k5 ?kA ?kF ?kK ?k6 ?k7 ?k8 ?k9 ?kB ret ?_ ?c2 ?c3 ?c4 ?c5; (case kA => exact rfl); (case kF => exact rfl); (case kK => assumption); (case k1 => k_asm); (case k2 => k_asm); (case k3 => k_asm); (case k5 => k_asm); (case k6 => k_is); (case k7 => k_is); (case k8 => (first | exact room_lt hdp (by rfl) | exact room_lt0 hdp | exact lt_ble (by rfl) | ktr_room)); (case k9 => exact BindsTo.of_eq rfl); (case c5 => decide); (case kB => exact locs rfl); (case c2 => exact rfl); (case c3 => exact rfl); (case c4 => exact rfl); k_whole; intro g' L' h' tk0 F' N' B' X' T' keep0; (try dsimp only))
  clear ret B F T
  (try simp only [List.reverse_cons, List.reverse_nil, List.nil_append, List.cons_append, kstB] at F')
  k_with_none
  k_with "call ref" => (k_here; k_dflt (refine' con_useQ (con_rat _ _ _ _ _ ?zzhq) ?zzk1 ?zzk2 ?zzk3 ?zzk4 ?zzk5 ?zzkK ?zzkp ?zzkd ?zzku ?_; (case zzk1 => k_asm); (case zzk2 => k_asm); (case zzk3 => k_asm); (case zzk4 => k_asm); (case zzk5 => k_asm); (case zzkK => first | exact rfl | assumption); (case zzkp => exact True.intro); (case zzkd => (first | exact room_lt hdp (by rfl) | exact room_lt0 hdp | exact lt_ble (by rfl) | ktr_room)); (case zzku => (first | exact unit_lt hun (by rfl) | exact lt_ble (by rfl) | ktr_units)); (case zzhq => assumption)); intro D9 t9 u9 c9 h9 tk9 k9 F9 N9 l9; clear k9; (try k_sweep); (try dsimp only); (try k_fold))
  have Pa := P.1.keeps keep0
  have Pb := P.2.keeps keep0
  unfold rsubF at hq
  dsimp only at hq
  split at hq
  case isFalse => cases hq
  rename_i hc
  simp only [Bool.and_eq_true] at hc
  have i1 := okN_lo hc.1.1
  have i2 := okN_hi hc.1.1
  have i3 := okN_lo hc.2
  have i4 := okN_hi hc.2
  have i5 := okN_lo hc.1.2
  have i6 := okN_hi hc.1.2
  clear hc P
  (try dsimp only)
  (try (with_reducible show wpAny _ _ _ _ _ _))
  (try k_fold)
  k_steps
  all_goals first
    | exact conEndQ keep0 rfl (by k_asm) (by k_asm) (by k_mem)
    | w_report

theorem con_rmul (x₁ y₁ x₂ y₂ : Int) (a b : Addr) (t₁ t₂ t₃ t₄ : Tok) (q : Q2) (hq : rmulF (x₁, y₁) (x₂, y₂) = some q) :
    Con 78 3 [.ref a, .ref b] (fun h => IsTup h a #[.int x₁ t₁, .int y₁ t₂] ∧ IsTup h b #[.int x₂ t₃, .int y₂ t₄]) (OutQ q) := by
  unfold Con
  k_fill
  intro w mean mg mb dp un gd cn cs aa ccd cl outer A₀ base h₀ L m s Q E B F X T hk P hdp hun ret
  refine wpAny_call ?_
  k_dflt (refine' code_con [(Str.ofString "a", .ref a), (Str.ofString "b", .ref b)] ?k1 ?k2 ?k3 ?k5 ?kA ?kF ?kK ?k6 ?k7 ?k8 ?k9 ?kB ret ?_ ?c2 ?c3 ?c4 ?c5; (case kA => exact rfl); (case kF => exact rfl); (case kK => assumption); (case k1 => k_asm); (case k2 => k_asm); (case k3 => k_asm); (case k5 => k_asm); (case k6 => k_is); (case k7 => k_is); (case k8 => (first | exact room_lt hdp (by rfl) | exact room_lt0 hdp | exact lt_ble (by rfl) | ktr_room)); (case k9 => exact BindsTo.of_eq rfl); (case c5 => decide); (case kB => exact locs rfl); (case c2 => exact rfl); (case c3 => exact rfl); (case c4 => exact rfl); k_whole; intro g' L' h' tk0 F' N' B' X' T' keep0; (try dsimp only))
  clear ret B F T
  (try simp only [List.reverse_cons, List.reverse_nil, List.nil_append, List.cons_append, kstB] at F')
  k_with_none
  k_with "call ref" => (k_here; k_dflt (refine' con_useQ (con_rat _ _ _ _ _ ?zzhq) ?zzk1 ?zzk2 ?zzk3 ?zzk4 ?zzk5 ?zzkK ?zzkp ?zzkd ?zzku ?_; (case zzk1 => k_asm); (case zzk2 => k_asm); (case zzk3 => k_asm); (case zzk4 => k_asm); (case zzk5 => k_asm); (case zzkK => first | exact rfl | assumption); (case zzkp => exact True.intro); (case zzkd => (first | exact room_lt hdp (by rfl) | exact room_lt0 hdp | exact lt_ble (by rfl) | ktr_room)); (case zzku => (first | exact unit_lt hun (by rfl) | exact lt_ble (by rfl) | ktr_units)); (case zzhq => assumption)); intro D9 t9 u9 c9 h9 tk9 k9 F9 N9 l9; clear k9; (try k_sweep); (try dsimp only); (try k_fold))
  have Pa := P.1.keeps keep0
  have Pb := P.2.keeps keep0
  unfold rmulF at hq
  dsimp only at hq
  split at hq
  case isFalse => cases hq
  rename_i hc
  simp only [Bool.and_eq_true] at hc
  have i1 := okN_lo hc.1
  have i2 := okN_hi hc.1
  have i3 := okN_lo hc.2
  have i4 := okN_hi hc.2
  
  
  clear hc P
  (try dsimp only)
  (try (with_reducible show wpAny _ _ _ _ _ _))
  (try k_fold)
  k_steps
  all_goals first
    | exact conEndQ keep0 rfl (by k_asm) (by k_asm) (by k_mem)
    | w_report

theorem con_rdiv (x₁ y₁ x₂ y₂ : Int) (a b : Addr) (t₁ t₂ t₃ t₄ : Tok) (q : Q2) (hq : rdivF (x₁, y₁) (x₂, y₂) = some q) :
    Con 85 3 [.ref a, .ref b] (fun h => IsTup h a #[.int x₁ t₁, .int y₁ t₂] ∧ IsTup h b #[.int x₂ t₃, .int y₂ t₄]) (OutQ q) := by
  unfold Con
  k_fill
  intro w mean mg mb dp un gd cn cs aa ccd cl outer A₀ base h₀ L m s Q E B F X T hk P hdp hun ret
  refine wpAny_call ?_
  k_dflt (refine' code_con [(Str.ofString "a", .ref a), (Str.ofString "b", .ref b)] ?k1 ?k2 ?k3 ?k5 ?kA ?kF ?kK ?k6 ?k7 ?k8 ?k9 ?kB ret ?_ ?c2 ?c3 ?c4 ?c5; (case kA => exact rfl); (case kF => exact rfl); (case kK => assumption); (case k1 => k_asm); (case k2 => k_asm); (case k3 => k_asm); (case k5 => k_asm); (case k6 => k_is); (case k7 => k_is); (case k8 => (first | exact room_lt hdp (by rfl) | exact room_lt0 hdp | exact lt_ble (by rfl) | ktr_room)); (case k9 => exact BindsTo.of_eq rfl); (case c5 => decide); (case kB => exact locs rfl); (case c2 => exact rfl); (case c3 => exact rfl); (case c4 => exact rfl); k_whole; intro g' L' h' tk0 F' N' B' X' T' keep0; (try dsimp only))
  clear ret B F T
  (try simp only [List.reverse_cons, List.reverse_nil, List.nil_append, List.cons_append, kstB] at F')
  k_with_none
  k_with "call ref" => (k_here; k_dflt (refine' con_useQ (con_rat _ _ _ _ _ ?zzhq) ?zzk1 ?zzk2 ?zzk3 ?zzk4 ?zzk5 ?zzkK ?zzkp ?zzkd ?zzku ?_; (case zzk1 => k_asm); (case zzk2 => k_asm); (case zzk3 => k_asm); (case zzk4 => k_asm); (case zzk5 => k_asm); (case zzkK => first | exact rfl | assumption); (case zzkp => exact True.intro); (case zzkd => (first | exact room_lt hdp (by rfl) | exact room_lt0 hdp | exact lt_ble (by rfl) | ktr_room)); (case zzku => (first | exact unit_lt hun (by rfl) | exact lt_ble (by rfl) | ktr_units)); (case zzhq => assumption)); intro D9 t9 u9 c9 h9 tk9 k9 F9 N9 l9; clear k9; (try k_sweep); (try dsimp only); (try k_fold))
  have Pa := P.1.keeps keep0
  have Pb := P.2.keeps keep0
  unfold rdivF at hq
  dsimp only at hq
  split at hq
  case isFalse => cases hq
  rename_i hc
  simp only [Bool.and_eq_true] at hc
  have i1 := okN_lo hc.1
  have i2 := okN_hi hc.1
  have i3 := okN_lo hc.2
  have i4 := okN_hi hc.2
  
  
  clear hc P
  (try dsimp only)
  (try (with_reducible show wpAny _ _ _ _ _ _))
  (try k_fold)
  k_steps
  all_goals first
    | exact conEndQ keep0 rfl (by k_asm) (by k_asm) (by k_mem)
    | w_report

end

section

theorem vast_no {x y : Int} (i1 : -1152921504606846976 < x) (i2 : x < 1152921504606846976) (i4 : y < 1152921504606846976) : ¬ (2 : Int) ^ Int.toNat 64 ≤ (if y > (if x < 0 then -x else x) then y else if x < 0 then -x else x) := by
  have e : (2 : Int) ^ Int.toNat 64 = 18446744073709551616 := by decide +kernel
  rw [e]
  split <;> split <;> omega
theorem con_vast (x y : Int) (a : Addr) (t u : Tok) (h1 : okN x = true) (h2 : okN y = true) :
    Con 92 1 [.ref a] (fun h => IsTup h a #[.int x t, .int y u]) (fun _ _ r => r = .bool false) := by
  unfold Con
  k_fill
  intro w mean mg mb dp un gd cn cs aa ccd cl outer A₀ base h₀ L m s Q E B F X T hk P hdp hun ret
  refine wpAny_call ?_
  k_dflt (refine' code_con [(Str.ofString "a", .ref a)] ?k1 ?k2 ?k3 ?k5 ?kA ?kF ?kK ?k6 ?k7 ?k8 ?k9 ?kB ret ?_ ?c2 ?c3 ?c4 ?c5; (case kA => exact rfl); (case kF => exact rfl); (case kK => assumption); (case k1 => k_asm); (case k2 => k_asm); (case k3 => k_asm); (case k5 => k_asm); (case k6 => k_is); (case k7 => k_is); (case k8 => (first | exact room_lt hdp (by rfl) | exact room_lt0 hdp | exact lt_ble (by rfl) | ktr_room)); (case k9 => exact BindsTo.of_eq rfl); (case c5 => decide); (case kB => exact locs rfl); (case c2 => exact rfl); (case c3 => exact rfl); (case c4 => exact rfl); k_whole; intro g' L' h' tk0 F' N' B' X' T' keep0; (try dsimp only))
  clear ret B F T
  (try simp only [List.reverse_cons, List.reverse_nil, List.nil_append, List.cons_append, kstB] at F')
  k_with_none
  have Pa := P.keeps keep0
  have i1 := okN_lo h1
  have i2 := okN_hi h1
  have i4 := okN_hi h2
  clear h1 h2 P
  (try dsimp only)
  (try (with_reducible show wpAny _ _ _ _ _ _))
  (try k_fold)
  k_steps
  all_goals first
    | (exfalso; exact vast_no i1 i2 i4 (by k_asm))
    | (rw [decide_eq_false (vast_no i1 i2 i4)]; exact conEnd rfl (by k_asm) (by k_asm) rfl)
    | w_report


theorem con_let (x y : Int) (a : Addr) (t u : Tok) (h1 : okN x = true) (h2 : okN y = true) :
    Con 113 2 [.ref a] (fun h => IsTup h a #[.int x t, .int y u]) (fun _ _ r => r = .ref a) := by
  unfold Con
  k_fill
  intro w mean mg mb dp un gd cn cs aa ccd cl outer A₀ base h₀ L m s Q E B F X T hk P hdp hun ret
  refine wpAny_call ?_
  k_dflt (refine' code_con [(Str.ofString "number", .ref a)] ?k1 ?k2 ?k3 ?k5 ?kA ?kF ?kK ?k6 ?k7 ?k8 ?k9 ?kB ret ?_ ?c2 ?c3 ?c4 ?c5; (case kA => exact rfl); (case kF => exact rfl); (case kK => assumption); (case k1 => k_asm); (case k2 => k_asm); (case k3 => k_asm); (case k5 => k_asm); (case k6 => k_is); (case k7 => k_is); (case k8 => (first | exact room_lt hdp (by rfl) | exact room_lt0 hdp | exact lt_ble (by rfl) | ktr_room)); (case k9 => exact BindsTo.of_eq rfl); (case c5 => decide); (case kB => exact locs rfl); (case c2 => exact rfl); (case c3 => exact rfl); (case c4 => exact rfl); k_whole; intro g' L' h' tk0 F' N' B' X' T' keep0; (try dsimp only))
  clear ret B F T
  (try simp only [List.reverse_cons, List.reverse_nil, List.nil_append, List.cons_append, kstB] at F')
  k_with_none
  k_with "call ref" => (k_here; k_dflt (refine' con_use (con_vast _ _ _ _ _ ?zzhq ?zzhr) ?zzk1 ?zzk2 ?zzk3 ?zzk4 ?zzk5 ?zzkK ?zzkp ?zzkd ?zzku ?_; (case zzk1 => k_asm); (case zzk2 => k_asm); (case zzk3 => k_asm); (case zzk4 => k_asm); (case zzk5 => k_asm); (case zzkK => first | exact rfl | assumption); (case zzkp => is_tup); (case zzkd => (first | exact room_lt hdp (by rfl) | exact room_lt0 hdp | exact lt_ble (by rfl) | ktr_room)); (case zzku => (first | exact unit_lt hun (by rfl) | exact lt_ble (by rfl) | ktr_units)); (case zzhq => assumption); (case zzhr => assumption)); intro r9 h9 tk9 k9 F9 N9 e9; subst e9; clear k9; (try k_sweep); (try dsimp only); (try k_fold))
  have Pa := P.keeps keep0
  clear P
  (try dsimp only)
  (try (with_reducible show wpAny _ _ _ _ _ _))
  (try k_fold)
  k_steps
  all_goals first
    | exact conEnd rfl (by k_asm) (by k_asm) rfl
    | w_report

theorem con_rcmp (x₁ y₁ x₂ y₂ : Int) (a b : Addr) (t₁ t₂ t₃ t₄ : Tok) (h1 : okN x₁ = true) (h2 : okN x₂ = true) (h3 : x₁ * y₂ - x₂ * y₁ = 0) :
    Con 99 1 [.ref a, .ref b] (fun h => IsTup h a #[.int x₁ t₁, .int y₁ t₂] ∧ IsTup h b #[.int x₂ t₃, .int y₂ t₄]) (fun _ _ r => ∃ t, r = .int 0 t) := by
  unfold Con
  k_fill
  intro w mean mg mb dp un gd cn cs aa ccd cl outer A₀ base h₀ L m s Q E B F X T hk P hdp hun ret
  refine wpAny_call ?_
  k_dflt (refine' code_con [(Str.ofString "a", .ref a), (Str.ofString "b", .ref b)] ?k1 ?k2 ?k3 ?k5 ?kA ?kF ?kK ?k6 ?k7 ?k8 ?k9 ?kB ret ?_ ?c2 ?c3 ?c4 ?c5; (case kA => exact rfl); (case kF => exact rfl); (case kK => assumption); (case k1 => k_asm); (case k2 => k_asm); (case k3 => k_asm); (case k5 => k_asm); (case k6 => k_is); (case k7 => k_is); (case k8 => (first | exact room_lt hdp (by rfl) | exact room_lt0 hdp | exact lt_ble (by rfl) | ktr_room)); (case k9 => exact BindsTo.of_eq rfl); (case c5 => decide); (case kB => exact locs rfl); (case c2 => exact rfl); (case c3 => exact rfl); (case c4 => exact rfl); k_whole; intro g' L' h' tk0 F' N' B' X' T' keep0; (try dsimp only))
  clear ret B F T
  (try simp only [List.reverse_cons, List.reverse_nil, List.nil_append, List.cons_append, kstB] at F')
  k_with_none
  k_with "call ref" => (k_here; k_dflt (refine' con_use (con_vast _ _ _ _ _ ?zzhq ?zzhr) ?zzk1 ?zzk2 ?zzk3 ?zzk4 ?zzk5 ?zzkK ?zzkp ?zzkd ?zzku ?_; (case zzk1 => k_asm); (case zzk2 => k_asm); (case zzk3 => k_asm); (case zzk4 => k_asm); (case zzk5 => k_asm); (case zzkK => first | exact rfl | assumption); (case zzkp => is_tup); (case zzkd => (first | exact room_lt hdp (by rfl) | exact room_lt0 hdp | exact lt_ble (by rfl) | ktr_room)); (case zzku => (first | exact unit_lt hun (by rfl) | exact lt_ble (by rfl) | ktr_units)); (case zzhq => assumption); (case zzhr => assumption)); intro r9 h9 tk9 k9 F9 N9 e9; subst e9; clear k9; (try k_sweep); (try dsimp only); (try k_fold))
  have Pa := P.1.keeps keep0
  have Pb := P.2.keeps keep0
  have i1 := okN_lo h1
  have i2 := okN_hi h1
  have i3 := okN_lo h2
  have i4 := okN_hi h2
  clear P
  (try dsimp only)
  (try (with_reducible show wpAny _ _ _ _ _ _))
  (try k_fold)
  k_steps
  all_goals first
    | (rw [h3]; exact conEnd rfl (by k_asm) (by k_asm) ⟨_, rfl⟩)
    | w_report

end

section
theorem isList_keeps {g h : Heap} {l : Addr} {vs : Array Value} (x : g.IsList l vs) (k : ∀ b o, g.get? b = some o → h.get? b = some o) : h.IsList l vs := let ⟨o, e, r⟩ := x; ⟨o, k _ _ e, r⟩
theorem reads_q {h : Heap} {a : Addr} {x y : Int} {t u : Tok} (T : IsTup h a #[.int x t, .int y u]) : ∃ as, Reads h (.ref a) (.tuple [.int x, .int y]) as := by
  obtain ⟨o, ho, hc, n, hd⟩ := T
  exact ⟨_, reads_tuple_at ho hc hd (ReadsAll.cons (Reads.int x t) (ReadsAll.cons (Reads.int y u) ReadsAll.nil))⟩
theorem eqv_q (x₁ y₁ x₂ y₂ : Int) : PyData.eqv (.tuple [.int x₁, .int y₁]) (.tuple [.int x₂, .int y₂]) = decide ((x₁, y₁) = (x₂, y₂)) := by
  by_cases h1 : x₁ = x₂ <;> by_cases h2 : y₁ = y₂ <;> simp [PyData.eqv, PyData.eqvAll, h1, h2]
section
variable {prog : Program} {w : World} {A : Around} {E : Value → Shared → Prop} {s : Shared} {a b : Addr} {x₁ y₁ x₂ y₂ : Int} {t₁ t₂ t₃ t₄ : Tok} {Q : Value → Shared → Prop}
theorem ne_q (hb : Bool) (Ta : IsTup s.heap a #[.int x₁ t₁, .int y₁ t₂]) (Tb : IsTup s.heap b #[.int x₂ t₃, .int y₂ t₄]) (hu : A.units + 64 < cLine) (he : decide ((x₁, y₁) = (x₂, y₂)) = !hb) (h : Q (.bool hb) s) :
    wpAny (model prog w) A (compareOp .NotEq (.ref a) (.ref b)) Q E s := by
  obtain ⟨as, ra⟩ := reads_q Ta
  obtain ⟨bs, rb⟩ := reads_q Tb
  refine ne_dataH ra rb (by simp [SeqAt.shaped, PyData.canLay0, PyData.canLayAll0, PyData.depth, PyData.depthAll]) (by simp [SeqAt.shaped, PyData.canLay0, PyData.canLayAll0, PyData.depth, PyData.depthAll]) hu ?_
  rw [eqv_q, he, Bool.not_not]
  exact h
theorem eq_q (hb : Bool) (Ta : IsTup s.heap a #[.int x₁ t₁, .int y₁ t₂]) (Tb : IsTup s.heap b #[.int x₂ t₃, .int y₂ t₄]) (hu : A.units + 64 < cLine) (he : decide ((x₁, y₁) = (x₂, y₂)) = hb) (h : Q (.bool hb) s) :
    wpAny (model prog w) A (compareOp .Eq (.ref a) (.ref b)) Q E s := by
  obtain ⟨as, ra⟩ := reads_q Ta
  obtain ⟨bs, rb⟩ := reads_q Tb
  refine eq_dataH ra rb (by simp [SeqAt.shaped, PyData.canLay0, PyData.canLayAll0, PyData.depth, PyData.depthAll]) (by simp [SeqAt.shaped, PyData.canLay0, PyData.canLayAll0, PyData.depth, PyData.depthAll]) hu ?_
  rw [eqv_q, he]
  exact h
end


/-! series: lists of tuples of two ints -/
abbrev tupO (q : Q2) (t u : Tok) (c : Nat) : Obj := { cls := .type "tuple", data := .seq #[.int q.1 t, .int q.2 u] c }
/-- the heap bears q at b -/
noncomputable def AQ (h : Heap) (b : Addr) (q : Q2) : Prop := ∃ t u, IsTup h b #[.int q.1 t, .int q.2 u]
theorem AQ.keeps {g h : Heap} {b : Addr} {q : Q2} (A : AQ g b q) (k : ∀ b o, g.get? b = some o → h.get? b = some o) : AQ h b q := let ⟨t, u, x⟩ := A; ⟨t, u, x.keeps k⟩
/-- the ledger bears q at b, or b is one of the text's two -/
noncomputable def RQ (nx : List (Addr × Obj)) (b : Addr) (q : Q2) : Prop := (∃ t u c, (b, tupO q t u c) ∈ nx) ∨ (b = 49 ∧ q = (0, 1)) ∨ (b = 50 ∧ q = (1, 1))
theorem RQ.mono {nx nx' : List (Addr × Obj)} {b : Addr} {q : Q2} (h : RQ nx b q) (k : ∀ p ∈ nx, p ∈ nx') : RQ nx' b q := h.imp (fun ⟨t, u, c, m⟩ => ⟨t, u, c, k _ m⟩) id
theorem RQ.new {nx : List (Addr × Obj)} {b : Addr} {q : Q2} {t u : Tok} {c : Nat} : RQ ((b, ({ cls := .type "tuple", data := .seq #[.int q.1 t, .int q.2 u] c } : Obj)) :: nx) b q := Or.inl ⟨t, u, c, List.mem_cons_self⟩
/-- the two of the text -/
noncomputable def TwoR (g : Heap) : Prop := AQ g 49 (0, 1) ∧ AQ g 50 (1, 1)
theorem twoR {g : Heap} (w : World) (X : (hd.heap_39 w.params).In g) : TwoR g := by
  refine ⟨⟨_, _, _, X 49 _ (by with_unfolding_all rfl), rfl, _, rfl⟩, ⟨_, _, _, X 50 _ (by with_unfolding_all rfl), rfl, _, rfl⟩⟩
theorem RQ.at {g h : Heap} {L : Addr} {m : Str → Option Value} {nx : List (Addr × Obj)} {b : Addr} {q : Q2} (F : Fr g L h m) (N : News g L h nx) (R : TwoR g) (x : RQ nx b q) : AQ h b q := by
  rcases x with ⟨t, u, c, hm⟩ | ⟨rfl, rfl⟩ | ⟨rfl, rfl⟩
  · exact ⟨t, u, _, (N _ hm).1, rfl, _, rfl⟩
  · exact R.1.keeps F.keep
  · exact R.2.keeps F.keep
theorem AQ.at {g h : Heap} {L : Addr} {m : Str → Option Value} {b : Addr} {q : Q2} (F : Fr g L h m) (x : AQ g b q) : AQ h b q := x.keeps F.keep
/-- a list of the base's that bears qs -/
noncomputable def SQ (h : Heap) (l : Addr) (qs : List Q2) : Prop := ∃ vs : List Value, h.IsList l vs.toArray ∧ vs.length = qs.length ∧ ∀ k : Int, 0 ≤ k → k < qs.length → ∃ b, vs[k.toNat]? = some (.ref b) ∧ AQ h b (gt qs k)
theorem SQ.keeps {g h : Heap} {l : Addr} {qs : List Q2} (A : SQ g l qs) (k : ∀ b o, g.get? b = some o → h.get? b = some o) : SQ h l qs :=
  let ⟨vs, hl, e, x⟩ := A; ⟨vs, isList_keeps hl k, e, fun i h0 h1 => let ⟨b, e, x⟩ := x i h0 h1; ⟨b, e, x.keeps k⟩⟩
/-- values that bear qs by the ledger -/
noncomputable def AllR (nx : List (Addr × Obj)) (vs : List Value) (qs : List Q2) : Prop := vs.length = qs.length ∧ ∀ k : Int, 0 ≤ k → k < qs.length → ∃ b, vs[k.toNat]? = some (.ref b) ∧ RQ nx b (gt qs k)
theorem AllR.mono {nx nx' : List (Addr × Obj)} {vs : List Value} {qs : List Q2} (h : AllR nx vs qs) (k : ∀ p ∈ nx, p ∈ nx') : AllR nx' vs qs :=
  ⟨h.1, fun i h0 h1 => let ⟨b, e, x⟩ := h.2 i h0 h1; ⟨b, e, x.mono k⟩⟩
theorem AllR.nil {nx : List (Addr × Obj)} : AllR nx [] [] := ⟨rfl, fun k h0 h1 => by have : k < 0 := h1; omega⟩
theorem gt_lt {qs rs : List Q2} {k : Int} (h0 : 0 ≤ k) (h1 : k < qs.length) : gt (qs ++ rs) k = gt qs k := by
  unfold gt
  rw [List.getD_eq_getElem?_getD, List.getD_eq_getElem?_getD, List.getElem?_append_left (by omega)]
theorem gt_at {qs rs : List Q2} {q : Q2} {k : Int} (h : k = qs.length) : gt (qs ++ q :: rs) k = q := by
  subst h
  unfold gt
  rw [List.getD_eq_getElem?_getD, Int.toNat_natCast, List.getElem?_append_right (Nat.le_refl _)]
  simp
theorem AllR.snoc {nx : List (Addr × Obj)} {vs : List Value} {qs : List Q2} {b : Addr} {q : Q2} (h : AllR nx vs qs) (x : RQ nx b q) : AllR nx (vs ++ [.ref b]) (qs ++ [q]) := by
  refine ⟨by simp [h.1], fun k h0 h1 => ?_⟩
  rw [List.length_append, List.length_singleton] at h1
  by_cases hk : k < qs.length
  · obtain ⟨c, e, y⟩ := h.2 k h0 hk
    refine ⟨c, ?_, by rw [gt_lt h0 hk]; exact y⟩
    rw [List.getElem?_append_left (by have := h.1; omega)]; exact e
  · have hk' : k = qs.length := by omega
    refine ⟨b, ?_, by rw [gt_at hk']; exact x⟩
    have : k.toNat = vs.length := by have := h.1; omega
    rw [this]; simp
theorem AllR.cons {nx : List (Addr × Obj)} {vs : List Value} {qs : List Q2} {b : Addr} {q : Q2} (x : RQ nx b q) (h : AllR nx vs qs) : AllR nx (.ref b :: vs) (q :: qs) := by
  refine ⟨by simp [h.1], fun k h0 h1 => ?_⟩
  rw [List.length_cons] at h1
  rcases Nat.eq_zero_or_pos k.toNat with hk | hk
  · exact ⟨b, by rw [hk]; rfl, by unfold gt; rw [hk]; exact x⟩
  · obtain ⟨c, e, y⟩ := h.2 (k - 1) (by omega) (by omega)
    have e1 : k.toNat = (k - 1).toNat + 1 := pred_toNat (by omega)
    refine ⟨c, by rw [e1]; exact e, ?_⟩
    unfold gt at y ⊢
    rw [e1]; exact y
theorem AllR.sq {g h : Heap} {L D : Addr} {m : Str → Option Value} {nx : List (Addr × Obj)} {vs : List Value} {qs : List Q2} {n : Nat} (F : Fr g L h m) (N : News g L h nx) (R : TwoR g) (hm : (D, listOf vs.toArray n) ∈ nx) (x : AllR nx vs qs) : SQ h D qs :=
  ⟨vs, ⟨_, N.get hm, rfl, _, rfl⟩, x.1, fun k h0 h1 => let ⟨b, e, y⟩ := x.2 k h0 h1; ⟨b, e, y.at F N R⟩⟩
/-- what a def hands back: one of ours -/
noncomputable def OutR (q : Q2) (h h' : Heap) (r : Value) : Prop := ∃ b nx, r = .ref b ∧ RQ nx b q ∧ ∀ p ∈ nx, h.get? p.1 = none ∧ h'.get? p.1 = some p.2 ∧ p.2.cls = .type "tuple"
/-- what a def hands back: a new list of ours -/
noncomputable def OutS (qs : List Q2) (h h' : Heap) (r : Value) : Prop := ∃ D n vs nx, r = .ref D ∧ AllR nx vs qs ∧ (h.get? D = none ∧ h'.get? D = some (listOf vs.toArray n)) ∧ ∀ p ∈ nx, h.get? p.1 = none ∧ h'.get? p.1 = some p.2 ∧ p.2.cls = .type "tuple"

section
variable {prog : Program} {w : World} {A : Around} {E : Value → Shared → Prop} {s : Shared} {value slice : Expr} {l : Addr} {qs : List Q2} {k : Int} {u : Tok} {g : Heap} {L : Addr} {m : Str → Option Value} {Q : Value → Shared → Prop}
/-- an item of a series of the base's, by a place that lies in it -/
theorem sub_S (F : Fr g L s.heap m) (hl : SQ g l qs) (h0 : 0 ≤ k) (h1 : k < qs.length) (h2 : k < 2 ^ 63)
    (h : ∀ b, AQ g b (gt qs k) → Q (.ref b) s)
    (hs : subscripted slice false (.ref l) (.int k u) = operate [.ref l, .int k u] (getItem (.ref l) (.int k u)) := by with_unfolding_all rfl) :
    wpAny (model prog w) A (subscriptTail value slice (.ref l) (.int k u)) Q E s := by
  obtain ⟨vs, hl, hn, hA⟩ := hl
  obtain ⟨b, e, T⟩ := hA k h0 h1
  have hl' : s.heap.IsList l vs.toArray := isList_keeps hl F.keep
  exact tail_any hl'.typeIs slot_list_getitem.lookup (wpAny_getItem_list hl' h0 h2 (by simpa using e) (h b T)) hs
theorem sub_L {news : List (Addr × Obj)} {vs : List Value} {n : Nat} (N : News g L s.heap news) (hm : (l, listOf vs.toArray n) ∈ news) (hA : AllR news vs qs) (h0 : 0 ≤ k) (h1 : k < qs.length) (h2 : k < 2 ^ 63)
    (h : ∀ b, RQ news b (gt qs k) → Q (.ref b) s)
    (hs : subscripted slice false (.ref l) (.int k u) = operate [.ref l, .int k u] (getItem (.ref l) (.int k u)) := by with_unfolding_all rfl) :
    wpAny (model prog w) A (subscriptTail value slice (.ref l) (.int k u)) Q E s := by
  obtain ⟨b, e, T⟩ := hA.2 k h0 h1
  have hl' : s.heap.IsList l vs.toArray := ⟨_, N.get hm, rfl, _, rfl⟩
  exact tail_any hl'.typeIs slot_list_getitem.lookup (wpAny_getItem_list hl' h0 h2 (by simpa using e) (h b T)) hs
theorem len_S (F : Fr g L s.heap m) (hl : SQ g l qs) (h1 : qs.length < 64) (h : Q (.int (qs.length : Nat) (s.toks + 1)) { s with toks := s.toks + 1 + 1 }) : wpAny (model prog w) A (call (.builtin "len") [.ref l]) Q E s := by
  obtain ⟨vs, hl, hn, hA⟩ := hl
  have hl' : s.heap.IsList l vs.toArray := isList_keeps hl F.keep
  refine len_list hl' (by simp [hn]; omega) ?_
  simpa [hn] using h
end
section
variable {prog : Program} {w : World} {A : Around} {E : Value → Shared → Prop} {s : Shared} {a b : Addr} {p q : Q2} {Q : Value → Shared → Prop}
theorem ne_Q (Ta : AQ s.heap a p) (Tb : AQ s.heap b q) (hu : A.units + 64 < cLine) (h : Q (.bool (!decide (p = q))) s) :
    wpAny (model prog w) A (compareOp .NotEq (.ref a) (.ref b)) Q E s := by
  obtain ⟨t, u, Ta⟩ := Ta
  obtain ⟨t', u', Tb⟩ := Tb
  exact ne_q (!decide (p = q)) Ta Tb hu (by rw [Bool.not_not]) h
theorem eq_Q (Ta : AQ s.heap a p) (Tb : AQ s.heap b q) (hu : A.units + 64 < cLine) (h : Q (.bool (decide (p = q))) s) :
    wpAny (model prog w) A (compareOp .Eq (.ref a) (.ref b)) Q E s := by
  obtain ⟨t, u, Ta⟩ := Ta
  obtain ⟨t', u', Tb⟩ := Tb
  exact eq_q (decide (p = q)) Ta Tb hu rfl h
end
/-- an append to a list of ours -/
theorem append_R {prog : Program} {w : World} {A : Around} {E : Value → Shared → Prop} {s : Shared} {g : Heap} {L D : Addr} {m : Str → Option Value} {vs : List Value} {n : Nat} {v : Value} {nx : List (Addr × Obj)} {Q : Value → Shared → Prop}
    (F : Fr g L s.heap m) (N : News g L s.heap ((D, listOf vs.toArray n) :: nx)) (hn : ∀ p ∈ nx, p.1 ≠ D) (hsz : vs.length < 1000)
    (h : ∀ h', Fr g L h' m → News g L h' ((D, listOf (vs ++ [v]).toArray (n + 1)) :: nx) → Q .none { s with heap := h' }) :
    wpAny (model prog w) A (call (.builtin "list.append") [.ref D, v]) Q E s :=
  append_at (hsz := by show vs.toArray.size ≤ sizeLine; rw [List.size_toArray, PySem.sizeLine_eq]; omega) (N.get List.mem_cons_self) fun h' hs ho' => h h' (F.change hs (N _ List.mem_cons_self).2.1 (N _ List.mem_cons_self).2.2) (N.setHead hn hs (by rw [ho']; simp [W.listOf]))
section
variable {prog : Program} {w : World} {A : Around} {E : Value → Shared → Prop} {s : Shared} {env : Env} {h₀ : Heap} {x : Str} {body : List Stmt} {Q : Flow → Shared → Prop}
/-- a turn's end of our loops -/
noncomputable def FoldPost {σ : Type} (h₀ : Heap) (L : Addr) (x : Str) (stored : List Str) (m₀ : Str → Option Value) (Inv : σ → List (Str × Value) → List (Addr × Obj) → Prop) (c' : σ) (own : List (Addr × Obj)) (s₁ : Shared) (Q : Flow → Shared → Prop) (f : Flow) (s₂ : Shared) : Prop :=
  TbPost h₀ L (fun m' nx' => ∃ ps', Inv c' ps' nx' ∧ (∀ p ∈ ps', m' p.1 = some p.2) ∧ ∀ z, z ≠ x → (∀ p ∈ ps', z ≠ p.1) → stored.contains z = false → m' z = m₀ z) own s₁ Q f s₂
theorem for_fold {σ : Type} (f : Int → σ → Option σ) (r c₀ : σ) (stored : List Str) (Inv : σ → List (Str × Value) → List (Addr × Obj) → Prop) (ps₀ : List (Str × Value)) (nx₀ : List (Addr × Obj)) {rr : Addr} {a₀ b₀ : Int} {t₀ u₀ v₀ : Tok} {n : Nat} {m₀ : Str → Option Value} {news : List (Addr × Obj)}
    (hh : A.handled = none) (hr : IsRange s.heap rr a₀ b₀ 1 t₀ u₀ v₀) (hsmall : Builtin.Range.small a₀ b₀ 1 = true) (hn : Builtin.Range.rangeSize a₀ b₀ 1 = (n : Int)) (F : Fr h₀ env.locals s.heap m₀) (N : News h₀ env.locals s.heap news)
    (hf : loopO f n a₀ c₀ = some r) (hI : Inv c₀ ps₀ nx₀) (hsub : ∀ p ∈ nx₀, p ∈ news) (hps : ∀ p ∈ ps₀, m₀ p.1 = some p.2)
    (turn : ∀ (k : Int) t (c c' : σ) ps (u : Str → Option Value) nx h tk own, a₀ ≤ k → k < a₀ + (n : Int) → f k c = some c' → TbOff own nx → Inv c ps nx →
      Fr h₀ env.locals h (fun y => if y = x then some (.int k t) else kstB (fun z => if stored.contains z then u z else m₀ z) ps y) → News h₀ env.locals h (nx ++ own) →
      wpAny (model prog w) A (execs body env) (FoldPost h₀ env.locals x stored m₀ Inv c' own { s with heap := h, toks := tk } Q) E { s with heap := h, toks := tk })
    (done : ∀ ps (u : Str → Option Value) nx h tk, Inv r ps nx → Fr h₀ env.locals h (fun y => if y = x then u y else kstB (fun z => if stored.contains z then u z else m₀ z) ps y) → News h₀ env.locals h nx → Q .next { s with heap := h, toks := tk }) :
    wpAny (model prog w) A (pyIter (.ref rr)) (fun it s₂ => LoopAtV prog w A h₀ env x body Q E it s₂) E s := by
  refine tbr_invG (news := nx₀) (fun i m nx => i ≤ n ∧ ∃ c ps, loopO f (n - i) (a₀ + i) c = some r ∧ Inv c ps nx ∧ (∀ p ∈ ps, m p.1 = some p.2) ∧ ∀ z, z ≠ x → (∀ p ∈ ps, z ≠ p.1) → stored.contains z = false → m z = m₀ z) hh hr hsmall hn F (fun p hp => N p (hsub p hp)) ⟨Nat.zero_le _, c₀, ps₀, by simpa using hf, hI, hps, fun _ _ _ _ => rfl⟩ ?_ ?_
  · rintro i k t m₁ nx h tk own hk hoff ⟨hin, c, ps, hl, hI', h1, h2⟩ F₁ N₁
    have hi : i < n := by
      have := (List.getElem?_eq_some_iff.mp hk).1
      rw [rangeKs_length] at this; exact this
    have hk' : k = a₀ + (i : Int) := by
      have e : (rangeKs a₀ n)[i]? = some (a₀ + (i : Int)) := by simp [rangeKs, hi]
      rw [e] at hk; exact (Option.some.inj hk).symm
    obtain ⟨j, hj⟩ : ∃ j, n - i = j + 1 := sub_succ hi
    rw [hj] at hl
    simp only [loopO] at hl
    cases hc : f (a₀ + (i : Int)) c with
    | none => rw [hc] at hl; cases hl
    | some c' =>
      rw [hc] at hl
      simp only [Option.bind_some] at hl
      rw [← hk'] at hc
      refine wpAny_mono (turn k t c c' ps m₁ nx h tk own (by omega) (by omega) hc hoff hI' (kst_fr h1 h2 F₁) N₁) (fun fl s₂ p => ?_) fun _ _ e => e
      have up : TbEnd h₀ env.locals (fun m' nx' => ∃ ps', Inv c' ps' nx' ∧ (∀ p ∈ ps', m' p.1 = some p.2) ∧ ∀ z, z ≠ x → (∀ p ∈ ps', z ≠ p.1) → stored.contains z = false → m' z = m₀ z) own { s with heap := h, toks := tk } s₂ →
          TbEnd h₀ env.locals (fun m nx => i + 1 ≤ n ∧ ∃ c ps, loopO f (n - (i + 1)) (a₀ + ((i + 1 : Nat) : Int)) c = some r ∧ Inv c ps nx ∧ (∀ p ∈ ps, m p.1 = some p.2) ∧ ∀ z, z ≠ x → (∀ p ∈ ps, z ≠ p.1) → stored.contains z = false → m z = m₀ z) own { s with heap := h, toks := tk } s₂ := by
        rintro ⟨h', tk', m', news', nx', e, F', N', hn', ho', ha, ps', hI'', h1', h2'⟩
        refine ⟨h', tk', m', news', nx', e, F', N', hn', ho', ha, hi, c', ps', ?_, hI'', h1', h2'⟩
        rw [show n - (i + 1) = j by omega, show a₀ + ((i + 1 : Nat) : Int) = a₀ + (i : Int) + 1 by omega]
        exact hl
      cases fl with
      | ret v => exact p
      | brk => exact p
      | next => exact up p
      | cont => exact up p
  · rintro m₁ nx h tk ⟨_, c, ps, hl, hI', h1, h2⟩ F₁ N₁
    rw [Nat.sub_self] at hl
    have e : c = r := Option.some.inj hl
    subst e
    exact done ps m₁ nx h tk hI' (kst_frOut h1 h2 F₁) N₁
end
section
variable {prog : Program} {w : World} {A : Around} {E : Value → Shared → Prop} {s : Shared} {env : Env} {h₀ : Heap} {x : Str} {body : List Stmt} {Q : Flow → Shared → Prop}
theorem for_fold2 {σ : Type} (f : Int → σ → Option σ) (r c₀ : σ) (stored : List Str) (Inv : σ → List (Str × Value) → List (Addr × Obj) → Prop) (ps₀ : List (Str × Value)) (nx₀ : List (Addr × Obj)) {rr : Addr} {a₀ b₀ : Int} {t₀ u₀ v₀ : Tok} {n : Nat} {m₀ : Str → Option Value} {news : List (Addr × Obj)}
    (hr : IsRange s.heap rr a₀ b₀ 1 t₀ u₀ v₀) (F : Fr h₀ env.locals s.heap m₀) (N : News h₀ env.locals s.heap news) (hh : A.handled = none) (ha : -1000 ≤ a₀ ∧ a₀ ≤ 1000 ∧ -1000 ≤ b₀ ∧ b₀ ≤ 1000) (hn : n = (b₀ - a₀).toNat)
    (hf : loopO f n a₀ c₀ = some r) (hI : Inv c₀ ps₀ nx₀) (hsub : ∀ p ∈ nx₀, p ∈ news) (hps : ∀ p ∈ ps₀, m₀ p.1 = some p.2)
    (turn : ∀ (k : Int) t (c c' : σ) ps (u : Str → Option Value) nx h tk own, a₀ ≤ k → k < b₀ → f k c = some c' → TbOff own nx → Inv c ps nx →
      Fr h₀ env.locals h (fun y => if y = x then some (.int k t) else kstB (fun z => if stored.contains z then u z else m₀ z) ps y) → News h₀ env.locals h (nx ++ own) →
      wpAny (model prog w) A (execs body env) (FoldPost h₀ env.locals x stored m₀ Inv c' own { s with heap := h, toks := tk } Q) E { s with heap := h, toks := tk })
    (done : ∀ ps (u : Str → Option Value) nx h tk, Inv r ps nx → Fr h₀ env.locals h (fun y => if y = x then u y else kstB (fun z => if stored.contains z then u z else m₀ z) ps y) → News h₀ env.locals h nx → Q .next { s with heap := h, toks := tk }) :
    wpAny (model prog w) A (pyIter (.ref rr)) (fun it s₂ => LoopAtV prog w A h₀ env x body Q E it s₂) E s :=
  for_fold f r c₀ stored Inv ps₀ nx₀ hh hr (small_one (by omega) (by omega) (by omega) (by omega)) (by rw [hn]; exact rangeSize_nat _ _) F N hf hI hsub hps
    (fun k t c c' ps u nx h tk own h1 h2 => turn k t c c' ps u nx h tk own h1 (by omega)) done
end

end

section
section
variable {x y : Int}
theorem con_ex2 {f : Addr} {kk : Nat} {vs : List Value} {Pre : Tok → Tok → Heap → Prop} {Out : Heap → Heap → Value → Prop} (C : ∀ t u, Con f kk vs (Pre t u) Out) : Con f kk vs (fun h => ∃ t u, Pre t u h) Out :=
  fun w mean mg mb dp un gd cn cs a ccd cl outer A₀ base h₀ L m s Q E B F X T hk P hdp hun ret =>
    let ⟨t, u, p⟩ := P; C t u w mean mg mb dp un gd cn cs a ccd cl outer A₀ base h₀ L m s Q E B F X T hk p hdp hun ret
theorem con_pre {f : Addr} {kk : Nat} {vs : List Value} {P P' : Heap → Prop} {Out Out' : Heap → Heap → Value → Prop} (C : Con f kk vs P Out) (i : ∀ h, P' h → P h) (o : ∀ h h' r, Out h h' r → Out' h h' r) : Con f kk vs P' Out' :=
  fun w mean mg mb dp un gd cn cs a ccd cl outer A₀ base h₀ L m s Q E B F X T hk P hdp hun ret =>
    C w mean mg mb dp un gd cn cs a ccd cl outer A₀ base h₀ L m s Q E B F X T hk (i _ P) hdp hun fun r h' tk' k oo => ret r h' tk' k (o _ _ _ oo)
end
theorem q_radd (p q r : Q2) (a b : Addr) (hq : raddF p q = some r) : Con 64 3 [.ref a, .ref b] (fun h => AQ h a p ∧ AQ h b q) (OutQ r) :=
  con_pre (con_ex2 fun t u => con_ex2 fun t' u' => con_radd p.1 p.2 q.1 q.2 a b t u t' u' r hq) (fun _ ⟨⟨t, u, h1⟩, t', u', h2⟩ => ⟨t, u, t', u', h1, h2⟩) fun _ _ _ h => h
theorem q_rsub (p q r : Q2) (a b : Addr) (hq : rsubF p q = some r) : Con 71 3 [.ref a, .ref b] (fun h => AQ h a p ∧ AQ h b q) (OutQ r) :=
  con_pre (con_ex2 fun t u => con_ex2 fun t' u' => con_rsub p.1 p.2 q.1 q.2 a b t u t' u' r hq) (fun _ ⟨⟨t, u, h1⟩, t', u', h2⟩ => ⟨t, u, t', u', h1, h2⟩) fun _ _ _ h => h
theorem q_rmul (p q r : Q2) (a b : Addr) (hq : rmulF p q = some r) : Con 78 3 [.ref a, .ref b] (fun h => AQ h a p ∧ AQ h b q) (OutQ r) :=
  con_pre (con_ex2 fun t u => con_ex2 fun t' u' => con_rmul p.1 p.2 q.1 q.2 a b t u t' u' r hq) (fun _ ⟨⟨t, u, h1⟩, t', u', h2⟩ => ⟨t, u, t', u', h1, h2⟩) fun _ _ _ h => h
theorem q_rdiv (p q r : Q2) (a b : Addr) (hq : rdivF p q = some r) : Con 85 3 [.ref a, .ref b] (fun h => AQ h a p ∧ AQ h b q) (OutQ r) :=
  con_pre (con_ex2 fun t u => con_ex2 fun t' u' => con_rdiv p.1 p.2 q.1 q.2 a b t u t' u' r hq) (fun _ ⟨⟨t, u, h1⟩, t', u', h2⟩ => ⟨t, u, t', u', h1, h2⟩) fun _ _ _ h => h
theorem letF_ok {p q : Q2} (h : letF p = some q) : p = q ∧ okN p.1 = true ∧ okN p.2 = true := by
  unfold letF at h
  split at h
  · rename_i hc; simp only [Bool.and_eq_true] at hc; exact ⟨Option.some.inj h, hc.1, hc.2⟩
  · cases h
theorem q_let (p q : Q2) (a : Addr) (hq : letF p = some q) : Con 113 2 [.ref a] (fun h => AQ h a p) (fun _ _ r => r = .ref a) :=
  con_pre (con_ex2 fun t u => con_let p.1 p.2 a t u (letF_ok hq).2.1 (letF_ok hq).2.2) (fun _ h => h) fun _ _ _ h => h
theorem q_rcmp (p q : Q2) (a b : Addr) (h1 : okN p.1 = true) (h2 : okN q.1 = true) (h3 : p.1 * q.2 - q.1 * p.2 = 0) : Con 99 1 [.ref a, .ref b] (fun h => AQ h a p ∧ AQ h b q) (fun _ _ r => ∃ t, r = .int 0 t) :=
  con_pre (con_ex2 fun t u => con_ex2 fun t' u' => con_rcmp p.1 p.2 q.1 q.2 a b t u t' u' h1 h2 h3) (fun _ ⟨⟨t, u, h1⟩, t', u', h2⟩ => ⟨t, u, t', u', h1, h2⟩) fun _ _ _ h => h

/-- off: no address of the one in the other -/
noncomputable def Off (st led : List (Addr × Obj)) : Prop := ∀ p ∈ st, ∀ q ∈ led, q.1 ≠ p.1
noncomputable def Tups (st : List (Addr × Obj)) : Prop := ∀ p ∈ st, p.2.cls = .type "tuple"
theorem Tups.nil : Tups [] := fun _ h => nomatch h
theorem Tups.app {st st' : List (Addr × Obj)} (h : Tups st) (h' : Tups st') : Tups (st ++ st') := fun p hp => (List.mem_append.mp hp).elim (h p) (h' p)
theorem Off.nil {led : List (Addr × Obj)} : Off [] led := fun _ h => nomatch h
theorem Off.cons {D : Addr} {o : Obj} {st led all : List (Addr × Obj)} (h : Off st led) (l : ∀ p ∈ all, p.1 ≠ D) (sub : ∀ p ∈ led, p ∈ all) : Off ((D, o) :: st) led := fun p hp q hq => by
  rcases List.mem_cons.mp hp with rfl | hp
  · exact l q (sub q hq)
  · exact h p hp q hq
theorem Off.app {st st' led : List (Addr × Obj)} (h : Off st led) (h' : Off st' led) : Off (st ++ st') led := fun p hp => (List.mem_append.mp hp).elim (h p) (h' p)
theorem Off.sub {st led led' : List (Addr × Obj)} (h : Off st led') (k : ∀ p ∈ led, p ∈ led') : Off st led := fun p hp q hq => h p hp q (k q hq)

section
variable {prog : Program} {w : World} {A : Around} {E : Value → Shared → Prop} {s : Shared} {env : Env} {h₀ : Heap} {x : Str} {body : List Stmt} {Q : Flow → Shared → Prop}
/-- a turn's end of our loops -/
noncomputable def LedPost {σ : Type} (h₀ : Heap) (L : Addr) (x : Str) (stored : List Str) (m₀ : Str → Option Value) (Inv : σ → List (Str × Value) → List (Addr × Obj) → Prop) (c' : σ) (led : List (Addr × Obj)) (s₁ : Shared) (Q : Flow → Shared → Prop) (f : Flow) (s₂ : Shared) : Prop :=
  match f with
  | .ret v => Q (.ret v) s₂
  | .brk => Q .next s₂
  | _ => ∃ h' tk m' all st' ps', s₂ = { s₁ with heap := h', toks := tk } ∧ Fr h₀ L h' m' ∧ News h₀ L h' all ∧ (∀ p ∈ st' ++ led, p ∈ all) ∧ Inv c' ps' st' ∧ Off st' led ∧ (∀ p ∈ ps', m' p.1 = some p.2) ∧ ∀ z, z ≠ x → (∀ p ∈ ps', z ≠ p.1) → stored.contains z = false → m' z = m₀ z
theorem led_end {σ : Type} {L : Addr} {stored : List Str} {m₀ m' : Str → Option Value} {Inv : σ → List (Str × Value) → List (Addr × Obj) → Prop} {c' : σ} {led all : List (Addr × Obj)} {s₁ s₂ : Shared} {h' : Heap} {tk : Nat} (ps' : List (Str × Value)) (st' : List (Addr × Obj))
    (hs : s₂ = { s₁ with heap := h', toks := tk }) (F : Fr h₀ L h' m') (N : News h₀ L h' all) (sub : ∀ p ∈ st' ++ led, p ∈ all) (hI : Inv c' ps' st') (off : Off st' led) (hk : ∀ p ∈ ps', m' p.1 = some p.2) (hr : ∀ z, z ≠ x → (∀ p ∈ ps', z ≠ p.1) → stored.contains z = false → m' z = m₀ z) :
    LedPost h₀ L x stored m₀ Inv c' led s₁ Q .next s₂ := ⟨h', tk, m', all, st', ps', hs, F, N, sub, hI, off, hk, hr⟩
theorem for_led {σ : Type} (f : Int → σ → Option σ) (r c₀ : σ) (stored : List Str) (Inv : σ → List (Str × Value) → List (Addr × Obj) → Prop) (ps₀ : List (Str × Value)) (st₀ : List (Addr × Obj)) {rr : Addr} {a₀ b₀ : Int} {t₀ u₀ v₀ : Tok} {n : Nat} {m₀ : Str → Option Value} {news all : List (Addr × Obj)}
    (hr : IsRange s.heap rr a₀ b₀ 1 t₀ u₀ v₀) (F : Fr h₀ env.locals s.heap m₀) (N : News h₀ env.locals s.heap all) (hh : A.handled = none) (ha : -1000 ≤ a₀ ∧ a₀ ≤ 1000 ∧ -1000 ≤ b₀ ∧ b₀ ≤ 1000) (hn : n = (b₀ - a₀).toNat)
    (hf : loopO f n a₀ c₀ = some r) (hI : Inv c₀ ps₀ st₀) (hsub : ∀ p ∈ st₀ ++ news, p ∈ all) (off₀ : Off st₀ news) (hps : ∀ p ∈ ps₀, m₀ p.1 = some p.2)
    (turn : ∀ (k : Int) t (c c' : σ) ps (u : Str → Option Value) st h tk led, a₀ ≤ k → k < b₀ → f k c = some c' → (∀ p ∈ news, p ∈ led) → Inv c ps st → Off st led →
      Fr h₀ env.locals h (fun y => if y = x then some (.int k t) else kstB (fun z => if stored.contains z then u z else m₀ z) ps y) → News h₀ env.locals h (st ++ led) →
      wpAny (model prog w) A (execs body env) (LedPost h₀ env.locals x stored m₀ Inv c' led { s with heap := h, toks := tk } Q) E { s with heap := h, toks := tk })
    (done : ∀ ps (u : Str → Option Value) st h tk, Inv r ps st → Off st news → Fr h₀ env.locals h (fun y => if y = x then u y else kstB (fun z => if stored.contains z then u z else m₀ z) ps y) → News h₀ env.locals h (st ++ news) → Q .next { s with heap := h, toks := tk }) :
    wpAny (model prog w) A (pyIter (.ref rr)) (fun it s₂ => LoopAtV prog w A h₀ env x body Q E it s₂) E s := by
  refine for_fold2 f r c₀ stored (fun c ps nx => ∃ st, nx = st ++ news ∧ Inv c ps st ∧ Off st news) ps₀ (st₀ ++ news) hr F N hh ha hn hf ⟨st₀, rfl, hI, off₀⟩ hsub hps ?_ ?_
  · rintro k t c c' ps u nx h tk own h1 h2 hc hoff ⟨st, rfl, hI', ho⟩ F₁ N₁
    rw [List.append_assoc] at N₁
    refine wpAny_mono (turn k t c c' ps u st h tk (news ++ own) h1 h2 hc (fun p hp => List.mem_append_left _ hp) hI' (fun p hp q hq => ?_) F₁ N₁) (fun fl s₂ z => ?_) fun _ _ e => e
    · rcases List.mem_append.mp hq with hq | hq
      · exact ho p hp q hq
      · exact hoff q hq p (List.mem_append_left _ hp)
    · have up : (∃ h' tk' m' all st' ps', s₂ = { { s with heap := h, toks := tk } with heap := h', toks := tk' } ∧ Fr h₀ env.locals h' m' ∧ News h₀ env.locals h' all ∧ (∀ p ∈ st' ++ (news ++ own), p ∈ all) ∧ Inv c' ps' st' ∧ Off st' (news ++ own) ∧ (∀ p ∈ ps', m' p.1 = some p.2) ∧ ∀ z, z ≠ x → (∀ p ∈ ps', z ≠ p.1) → stored.contains z = false → m' z = m₀ z) →
          TbEnd h₀ env.locals (fun m' nx' => ∃ ps', (∃ st, nx' = st ++ news ∧ Inv c' ps' st ∧ Off st news) ∧ (∀ p ∈ ps', m' p.1 = some p.2) ∧ ∀ z, z ≠ x → (∀ p ∈ ps', z ≠ p.1) → stored.contains z = false → m' z = m₀ z) own { s with heap := h, toks := tk } s₂ := by
        rintro ⟨h', tk', m', all', st', ps', e, F', N', sub, hI'', off, h1', h2'⟩
        refine ⟨h', tk', m', all', st' ++ news, e, F', N', fun p hp => sub p ?_, fun p hp => sub p (List.mem_append_right _ (List.mem_append_right _ hp)), fun p hp q hq => ?_, ps', ⟨st', rfl, hI'', off.sub fun p hp => List.mem_append_left _ hp⟩, h1', h2'⟩
        · rcases List.mem_append.mp hp with hp | hp
          · exact List.mem_append_left _ hp
          · exact List.mem_append_right _ (List.mem_append_left _ hp)
        · rcases List.mem_append.mp hq with hq | hq
          · exact off q hq p (List.mem_append_right _ hp)
          · exact hoff p hp q (List.mem_append_right _ hq)
      cases fl with
      | ret v => exact z
      | brk => exact z
      | next => exact up z
      | cont => exact up z
  · rintro ps u nx h tk ⟨st, rfl, hI', ho⟩ F₁ N₁
    exact done ps u st h tk hI' ho F₁ N₁

theorem tup_off {g h : Heap} {L D : Addr} {vs : Array Value} {n : Nat} {all nt : List (Addr × Obj)} (N : News g L h all) (hm : (D, listOf vs n) ∈ all) (sub : ∀ p ∈ nt, p ∈ all) (T : Tups nt) : ∀ p ∈ nt, p.1 ≠ D := fun p hp e => by
  have h1 := (N p (sub p hp)).1
  have h2 := (N _ hm).1
  rw [e] at h1
  have h2' : h.get? D = some (listOf vs n) := h2
  rw [h1] at h2'
  have h3 := T p hp
  rw [Option.some.inj h2'] at h3
  simp at h3
/-- one name's fraction turned -/
noncomputable def InvOne (y : Str) (c : Q2) (ps : List (Str × Value)) (st : List (Addr × Obj)) : Prop := ∃ b, ps = [(y, .ref b)] ∧ RQ st b c ∧ Tups st
theorem for_one (f : Int → Q2 → Option Q2) (r c₀ : Q2) (y : Str) (stored : List Str) {rr v₀ : Addr} {a₀ b₀ : Int} {t₀ u₀ w₀ : Tok} {n : Nat} {m₀ : Str → Option Value} {news : List (Addr × Obj)}
    (hr : IsRange s.heap rr a₀ b₀ 1 t₀ u₀ w₀) (F : Fr h₀ env.locals s.heap m₀) (N : News h₀ env.locals s.heap news) (hh : A.handled = none) (ha : -1000 ≤ a₀ ∧ a₀ ≤ 1000 ∧ -1000 ≤ b₀ ∧ b₀ ≤ 1000) (hn : n = (b₀ - a₀).toNat)
    (hf : loopO f n a₀ c₀ = some r) (hI : RQ [] v₀ c₀) (hy : m₀ y = some (.ref v₀))
    (turn : ∀ (k : Int) t (c c' : Q2) b (u : Str → Option Value) st h tk led, a₀ ≤ k → k < b₀ → f k c = some c' → (∀ p ∈ news, p ∈ led) → RQ st b c → Tups st → Off st led →
      Fr h₀ env.locals h (fun z => if z = x then some (.int k t) else if z = y then some (.ref b) else if stored.contains z then u z else m₀ z) → News h₀ env.locals h (st ++ led) →
      wpAny (model prog w) A (execs body env) (LedPost h₀ env.locals x stored m₀ (InvOne y) c' led { s with heap := h, toks := tk } Q) E { s with heap := h, toks := tk })
    (done : ∀ b (u : Str → Option Value) st h tk, RQ st b r → Tups st → Off st news → Fr h₀ env.locals h (fun z => if z = x then u z else if z = y then some (.ref b) else if stored.contains z then u z else m₀ z) → News h₀ env.locals h (st ++ news) → Q .next { s with heap := h, toks := tk }) :
    wpAny (model prog w) A (pyIter (.ref rr)) (fun it s₂ => LoopAtV prog w A h₀ env x body Q E it s₂) E s := by
  refine for_led f r c₀ stored (InvOne y) [(y, .ref v₀)] [] (news := news) hr F N hh ha hn hf ⟨v₀, rfl, hI, Tups.nil⟩ (fun p hp => by simpa using hp) Off.nil (List.forall_mem_singleton.mpr hy) ?_ ?_
  · rintro k t c c' ps u st h tk led h1 h2 hc hsub ⟨b, rfl, hR, hT⟩ off F₁ N₁
    exact turn k t c c' b u st h tk led h1 h2 hc hsub hR hT off (by simpa only [kstB] using F₁) N₁
  · rintro ps u st h tk ⟨b, rfl, hR, hT⟩ off F₁ N₁
    exact done b u st h tk hR hT off (by simpa only [kstB] using F₁) N₁
theorem one_end {L : Addr} {y : Str} {stored : List Str} {m₀ m' : Str → Option Value} {c' : Q2} {led all : List (Addr × Obj)} {s₁ s₂ : Shared} {h' : Heap} {tk : Nat} {b : Addr} (st' : List (Addr × Obj))
    (hs : s₂ = { s₁ with heap := h', toks := tk }) (F : Fr h₀ L h' m') (N : News h₀ L h' all) (sub : ∀ p ∈ st' ++ led, p ∈ all) (hR : RQ st' b c') (hT : Tups st') (off : Off st' led) (hy : m' y = some (.ref b)) (hr : ∀ z, z ≠ x → z ≠ y → stored.contains z = false → m' z = m₀ z) :
    LedPost h₀ L x stored m₀ (InvOne y) c' led s₁ Q .next s₂ := led_end [(y, .ref b)] st' hs F N sub ⟨b, rfl, hR, hT⟩ off (List.forall_mem_singleton.mpr hy) fun z h1 h2 h3 => hr z h1 (h2 _ List.mem_cons_self) h3
/-- a list of ours grown -/
noncomputable def InvGrow (D : Addr) (c : List Q2) (ps : List (Str × Value)) (st : List (Addr × Obj)) : Prop := ∃ vs n nt, ps = [] ∧ st = (D, listOf vs.toArray n) :: nt ∧ AllR nt vs c ∧ Tups nt
theorem for_grow (f : Int → List Q2 → Option (List Q2)) (r : List Q2) (D : Addr) (stored : List Str) {rr : Addr} {a₀ b₀ : Int} {t₀ u₀ w₀ : Tok} {n n₀ : Nat} {m₀ : Str → Option Value} {news all : List (Addr × Obj)}
    (hr : IsRange s.heap rr a₀ b₀ 1 t₀ u₀ w₀) (F : Fr h₀ env.locals s.heap m₀) (N : News h₀ env.locals s.heap all) (hh : A.handled = none) (ha : -1000 ≤ a₀ ∧ a₀ ≤ 1000 ∧ -1000 ≤ b₀ ∧ b₀ ≤ 1000) (hn : n = (b₀ - a₀).toNat)
    (hf : loopO f n a₀ [] = some r) (hm : (D, listOf #[] n₀) ∈ all) (hsub : ∀ p ∈ news, p ∈ all) (hoff : ∀ p ∈ news, p.1 ≠ D)
    (turn : ∀ (k : Int) t (c c' : List Q2) vs n nt (u : Str → Option Value) h tk led, a₀ ≤ k → k < b₀ → f k c = some c' → (∀ p ∈ news, p ∈ led) → AllR nt vs c → Tups nt → Off nt led → (∀ p ∈ led, p.1 ≠ D) → (∀ p ∈ nt, p.1 ≠ D) →
      Fr h₀ env.locals h (fun z => if z = x then some (.int k t) else if stored.contains z then u z else m₀ z) → News h₀ env.locals h ((D, listOf vs.toArray n) :: (nt ++ led)) →
      wpAny (model prog w) A (execs body env) (LedPost h₀ env.locals x stored m₀ (InvGrow D) c' led { s with heap := h, toks := tk } Q) E { s with heap := h, toks := tk })
    (done : ∀ vs n nt (u : Str → Option Value) h tk, AllR nt vs r → Tups nt → Fr h₀ env.locals h (fun z => if z = x then u z else if stored.contains z then u z else m₀ z) → News h₀ env.locals h ((D, listOf vs.toArray n) :: (nt ++ news)) → Q .next { s with heap := h, toks := tk }) :
    wpAny (model prog w) A (pyIter (.ref rr)) (fun it s₂ => LoopAtV prog w A h₀ env x body Q E it s₂) E s := by
  refine for_led f r [] stored (InvGrow D) [] [(D, listOf #[] n₀)] (news := news) hr F N hh ha hn hf ⟨[], n₀, [], rfl, rfl, AllR.nil, Tups.nil⟩ (fun p hp => ?_) (fun p hp q hq => ?_) (fun _ h => nomatch h) ?_ ?_
  · rcases List.mem_cons.mp hp with rfl | hp
    · exact hm
    · exact hsub p hp
  · rw [List.mem_singleton.mp hp]; exact hoff q hq
  · rintro k t c c' ps u st h tk led h1 h2 hc hs' ⟨vs, n, nt, rfl, rfl, hR, hT⟩ off F₁ N₁
    exact turn k t c c' vs n nt u h tk led h1 h2 hc hs' hR hT (fun p hp => off p (List.mem_cons_of_mem _ hp)) (off _ List.mem_cons_self) (tup_off N₁ List.mem_cons_self (fun p hp => List.mem_cons_of_mem _ (List.mem_append_left _ hp)) hT) (by simpa only [kstB] using F₁) N₁
  · rintro ps u st h tk ⟨vs, n, nt, rfl, rfl, hR, hT⟩ off F₁ N₁
    exact done vs n nt u h tk hR hT (by simpa only [kstB] using F₁) N₁
end
/-- an append to a list of ours; the ledger without it -/
noncomputable def but (D : Addr) (all : List (Addr × Obj)) : List (Addr × Obj) := all.filter fun p => decide ((p.1 : Nat) ≠ D)
theorem but_mem {D : Addr} {all : List (Addr × Obj)} {p : Addr × Obj} (h : p ∈ all) (hn : p.1 ≠ D) : p ∈ but D all := List.mem_filter.mpr ⟨h, decide_eq_true hn⟩
theorem append_F {prog : Program} {w : World} {A : Around} {E : Value → Shared → Prop} {s : Shared} {g : Heap} {L D : Addr} {m : Str → Option Value} {vs : List Value} {n : Nat} {v : Value} {all : List (Addr × Obj)} {Q : Value → Shared → Prop}
    (F : Fr g L s.heap m) (N : News g L s.heap all) (hm : (D, listOf vs.toArray n) ∈ all) (hsz : vs.length < 1000)
    (h : ∀ h', Fr g L h' m → News g L h' ((D, listOf (vs ++ [v]).toArray (n + 1)) :: but D all) → Q .none { s with heap := h' }) :
    wpAny (model prog w) A (call (.builtin "list.append") [.ref D, v]) Q E s := by
  refine append_R F (nx := but D all) (vs := vs) (n := n) ?_ (fun p hp => of_decide_eq_true (List.mem_filter.mp hp).2) hsz h
  intro p hp
  rcases List.mem_cons.mp hp with rfl | hp
  · exact N _ hm
  · exact N _ (List.mem_filter.mp hp).1
/-! the ledger grown by tuples of ours -/
structure Grown (base all nv : List (Addr × Obj)) : Prop where
  eq : all = nv ++ base
  tups : Tups nv
  off : Off nv base
theorem Grown.nil {base : List (Addr × Obj)} : Grown base base [] := ⟨rfl, Tups.nil, Off.nil⟩
theorem Grown.app {base all nv st : List (Addr × Obj)} (G : Grown base all nv) (T : Tups st) (o : Off st all) : Grown base (st ++ all) (st ++ nv) :=
  ⟨by rw [G.eq, List.append_assoc], T.app G.tups, (o.sub fun p hp => by rw [G.eq]; exact List.mem_append_right _ hp).app G.off⟩
theorem con_useR {f : Addr} {kk : Nat} {vs : List Value} {Pre : Heap → Prop} {q : Q2} (C : Con f kk vs Pre (OutQ q))
    {w : World} {mean : ExcName → Option Value} {mg mb : Str → Option Value} {dp un : Nat} {gd : Option (List Code)} {cn : Str} {cs : Scope} {a : Addr} {ccd : Value} {cl : List (Str × Addr)}
    {outer : List Env} {A₀ : Around} {base h₀ : Heap} {L : Addr} {m : Str → Option Value} {news : List (Addr × Obj)} {s : Shared} {Q E : Value → Shared → Prop}
    (B : Below A₀ base outer h₀) (F : Fr h₀ L s.heap m) (X : (hd.heap_39 w.params).In h₀) (N : News h₀ L s.heap news) (T : Top hd.view_39 (looseW hd.view_39 []) mean mg mb h₀) (hk : cs.kind = .function) (P : Pre s.heap)
    (hd : dp + kk < recursionLimit) (hu : un + 8 * kk < cLine)
    (ret : ∀ D t u c h' tk', Fr h₀ L h' m → News h₀ L h' ((D, ({ cls := .type "tuple", data := .seq #[.int q.1 t, .int q.2 u] c } : Obj)) :: news) → (∀ p ∈ news, p.1 ≠ D) → RQ [(D, ({ cls := .type "tuple", data := .seq #[.int q.1 t, .int q.2 u] c } : Obj))] D q → Q (.ref D) { s with heap := h', toks := tk' }) :
    wpAny (model PySem.Challenge.rw_sa0091_01.row.prog w) (ktrTop dp un gd cn cs L a ccd cl outer) (call (.ref f) vs) Q E s :=
  con_useQ C B F X N T hk P hd hu fun D t u c h' tk' _ F' N' l => ret D t u c h' tk' F' N' l RQ.new
theorem newTuple_R {M : Model} {A : Around} {E : Value → Shared → Prop} {s : Shared} {h₀ : Heap} {L : Addr} {m : Str → Option Value} {news : List (Addr × Obj)} {x y : Int} {t u : Tok} {Q : Value → Shared → Prop} (F : Fr h₀ L s.heap m) (N : News h₀ L s.heap news)
    (h : ∀ D c h', Fr h₀ L h' m → News h₀ L h' ((D, ({ cls := .type "tuple", data := .seq #[.int x t, .int y u] c } : Obj)) :: news) → (∀ p ∈ news, p.1 ≠ D) → RQ [(D, ({ cls := .type "tuple", data := .seq #[.int x t, .int y u] c } : Obj))] D (x, y) → Q (.ref D) { s with heap := h' }) :
    wpAny M A (newTuple [.int x t, .int y u]) Q E s :=
  newTuple_N F N fun h' F' N' => h _ _ h' F' N' (fun p hp e => by have := Heap.lt_size (N p hp).1; rw [e] at this; exact Nat.lt_irrefl _ this) (RQ.new (q := (x, y)))
theorem one_endG {x : Str} {h₀ : Heap} {Q : Flow → Shared → Prop} {L : Addr} {y : Str} {stored : List Str} {m₀ m' : Str → Option Value} {c' : Q2} {led all st nv : List (Addr × Obj)} {s₁ s₂ : Shared} {h' : Heap} {tk : Nat} {b : Addr}
    (G : Grown (st ++ led) all nv) (hs : s₂ = { s₁ with heap := h', toks := tk }) (F : Fr h₀ L h' m') (N : News h₀ L h' all) (hT : Tups st) (off : Off st led) (hR : RQ (nv ++ st) b c') (hy : m' y = some (.ref b)) (hr : ∀ z, z ≠ x → z ≠ y → stored.contains z = false → m' z = m₀ z) :
    LedPost h₀ L x stored m₀ (InvOne y) c' led s₁ Q .next s₂ :=
  one_end (nv ++ st) hs F N (fun p hp => by rw [G.eq, ← List.append_assoc]; exact hp) hR (G.tups.app hT) ((G.off.sub fun p hp => List.mem_append_right _ hp).app off) hy hr
theorem conEndR {s s₁ : Shared} {q : Q2} {g h : Heap} {L b : Addr} {m' : Str → Option Value} {st news : List (Addr × Obj)} {tk : Nat} (keep0 : ∀ b o, s.heap.get? b = some o → g.get? b = some o)
    (hs : s₁ = { s with heap := h, toks := tk }) (F : Fr g L h m') (N : News g L h (st ++ news)) (hR : RQ st b q) (hT : Tups st) : ConEnd s g L (OutR q) (.ret (.ref b)) s₁ :=
  conEnd hs F N ⟨b, st, rfl, hR, fun p hp => ⟨fresh_of keep0 N (List.mem_append_left _ hp), N.get (List.mem_append_left _ hp), hT p hp⟩⟩
theorem conEndS {s s₁ : Shared} {qs : List Q2} {g h : Heap} {L D : Addr} {m' : Str → Option Value} {vs : List Value} {n : Nat} {nt all : List (Addr × Obj)} {tk : Nat} (keep0 : ∀ b o, s.heap.get? b = some o → g.get? b = some o)
    (hs : s₁ = { s with heap := h, toks := tk }) (F : Fr g L h m') (N : News g L h all) (hm : (D, listOf vs.toArray n) ∈ all) (sub : ∀ p ∈ nt, p ∈ all) (hA : AllR nt vs qs) (hT : Tups nt) : ConEnd s g L (OutS qs) (.ret (.ref D)) s₁ :=
  conEnd hs F N ⟨D, n, vs, nt, rfl, hA, ⟨fresh_of keep0 N hm, N.get hm⟩, fun p hp => ⟨fresh_of keep0 N (sub p hp), N.get (sub p hp), hT p hp⟩⟩
theorem Grown.consN {base all nv : List (Addr × Obj)} {D : Addr} {o : Obj} {h₀ h : Heap} {L : Addr} (_ : News h₀ L h ((D, o) :: all)) (G : Grown base all nv) (l : ∀ p ∈ all, p.1 ≠ D) (ho : o.cls = .type "tuple") : Grown base ((D, o) :: all) ((D, o) :: nv) :=
  ⟨by rw [G.eq]; rfl, fun p hp => by
    rcases List.mem_cons.mp hp with rfl | hp
    · exact ho
    · exact G.tups p hp, G.off.cons l fun p hp => by rw [G.eq]; exact List.mem_append_right _ hp⟩

theorem grow_endG {x : Str} {h₀ : Heap} {Q : Flow → Shared → Prop} {L D : Addr} {stored : List Str} {m₀ m' : Str → Option Value} {c : List Q2} {q : Q2} {led all nt nv : List (Addr × Obj)} {s₁ s₂ : Shared} {h' : Heap} {tk n : Nat} {b : Addr} {vs : List Value}
    (G : Grown ((D, listOf vs.toArray n) :: (nt ++ led)) all nv) (hA : AllR nt vs c) (hT : Tups nt) (off : Off nt led) (hD : ∀ p ∈ led, p.1 ≠ D) (hDn : ∀ p ∈ nt, p.1 ≠ D) (hR : RQ nv b q)
    (hs : s₂ = { s₁ with heap := h', toks := tk }) (F : Fr h₀ L h' m') (N : News h₀ L h' ((D, listOf (vs ++ [Value.ref b]).toArray (n + 1)) :: but D all)) (hr : ∀ z, z ≠ x → stored.contains z = false → m' z = m₀ z) :
    LedPost h₀ L x stored m₀ (InvGrow D) (c ++ [q]) led s₁ Q .next s₂ := by
  have o2 : ∀ p ∈ nv, p.1 ≠ D := fun p hp e => G.off p hp _ List.mem_cons_self e.symm
  have ms : ∀ p, p ∈ nt ∨ p ∈ led → p ∈ all := fun p hp => by
    rw [G.eq]; exact List.mem_append_right _ (List.mem_cons_of_mem _ (List.mem_append.mpr hp))
  refine led_end [] ((D, listOf (vs ++ [Value.ref b]).toArray (n + 1)) :: (nv ++ nt)) hs F N (fun p hp => ?_) ⟨_, _, _, rfl, rfl, AllR.snoc (hA.mono fun p hp => List.mem_append_right _ hp) (hR.mono fun p hp => List.mem_append_left _ hp), G.tups.app hT⟩ (fun p hp q' hq => ?_) (fun _ h => nomatch h) fun z h1 _ h3 => hr z h1 h3
  · rcases List.mem_append.mp hp with hp | hp
    · rcases List.mem_cons.mp hp with rfl | hp
      · exact List.mem_cons_self
      · refine List.mem_cons_of_mem _ ?_
        rcases List.mem_append.mp hp with hp | hp
        · exact but_mem (by rw [G.eq]; exact List.mem_append_left _ hp) (o2 p hp)
        · exact but_mem (ms p (.inl hp)) (hDn p hp)
    · exact List.mem_cons_of_mem _ (but_mem (ms p (.inr hp)) (hD p hp))
  · rcases List.mem_cons.mp hp with rfl | hp
    · exact hD q' hq
    · rcases List.mem_append.mp hp with hp | hp
      · exact G.off p hp q' (List.mem_cons_of_mem _ (List.mem_append_right _ hq))
      · exact off p hp q' hq
theorem newList_R {M : Model} {A : Around} {E : Value → Shared → Prop} {s : Shared} {h₀ : Heap} {L : Addr} {m : Str → Option Value} {news : List (Addr × Obj)} {Q : Value → Shared → Prop} (F : Fr h₀ L s.heap m) (N : News h₀ L s.heap news)
    (h : ∀ D h', Fr h₀ L h' m → News h₀ L h' ((D, listOf #[] 0) :: news) → (∀ p ∈ news, p.1 ≠ D) → Q (.ref D) { s with heap := h' }) :
    wpAny M A (newList []) Q E s :=
  newList_N F N fun h' F' N' => h _ h' F' N' (fun p hp e => by have := Heap.lt_size (N p hp).1; rw [e] at this; exact Nat.lt_irrefl _ this)

end

section
/-- a def's end, its ledger told -/
noncomputable def ConEndN (s : Shared) (g : Heap) (L : Addr) (Out : List (Addr × Obj) → Value → Prop) (fl : Flow) (s' : Shared) : Prop :=
  ∃ h' tk' m' news', s' = { s with heap := h', toks := tk' } ∧ Fr g L h' m' ∧ News g L h' news' ∧ Out news' (match fl with | .ret v => v | _ => .none)
theorem code_conN {prog : Program} {w : World} {A₀ A : Around} {s : Shared} {base h₀ : Heap} {outer : List Env} {L : Addr} {m : Str → Option Value} {env : Env} {K : Frag} {p : Program} {loose : List Str} {mean : ExcName → Option Value} {mg mb : Str → Option Value}
    {name qual : Str} {params : Arguments} {body : List Stmt} {scope : Scope} {dV kV doc pm cdv ct oc : Value} {an od : Option Addr} {osl : Array (Option Value)} {f : Addr} {args : Args} {Q E : Value → Shared → Prop} {news : List (Addr × Obj)} {Out : List (Addr × Obj) → Value → Prop} (binds : List (Str × Value))
    (B : Below A₀ base outer h₀) (F : Fr h₀ L s.heap m) (X₀ : K.In h₀) (N : News h₀ L s.heap news) (T : Top p loose mean mg mb h₀) (hA : A.frames = some (env :: outer)) (hf : env.frame = some L) (hke : env.scope.kind = .function)
    (ho : K.lookup f = some ⟨oc, od, .func (fnOf name qual params body scope dV kV doc pm an cdv ct), osl⟩) (hcd : codeIn K cdv qual = true) (hroom : A.depth < recursionLimit)
    (hbind : BindsTo s (fnOf name qual params body scope dV kV doc pm an cdv ct) args binds) (hloc : ∀ y ∈ binds, scope.names.lookup y.1 = some .local)
    (ret : ∀ r h' tk' news', (∀ b o, s.heap.get? b = some o → b ∉ news.map (·.1) → h'.get? b = some o) → Fr h₀ L h' m → News h₀ L h' news' → Out news' r → Q r { s with heap := h', toks := tk' })
    (h : ∀ g L' h₁ tk, Fr g L' h₁ (kstB (fun _ => none) binds.reverse) → News g L' h₁ news → Below A base (env :: outer) g → K.In g → Top p loose mean mg mb g →
      wpAny (model prog w) (A.deeper (envOf qual scope L' f cdv)) (execs body (envOf qual scope L' f cdv)) (ConEndN s g L' Out) (fun _ _ => False) { s with heap := h₁, toks := tk })
    (hco : scope.isCoroutine = false) (hgen : scope.isGenerator = false) (hk : scope.kind = .function)
    (hcell : ∀ x ∈ scope.names, x.2 ≠ .cell) : codeAny (model prog w) A (.call (.ref f) args) (fun r s' => match r with | .ok (.ret v) => Q v s' | .ok _ => False | .error e => E e s') s := by
  refine code_defG B F X₀ N T hA hf hke ho hcd hroom hbind hloc (fun g L' h₁ FG F' N' B' X' T' G => ?_) hco hgen hk hcell
  refine wpAny_mono (h g L' h₁ _ (by rw [← funext (lookup_kstB binds.reverse)]; exact F') N' B' X' T') (fun fl s' he => ?_) fun _ _ x => x.elim
  obtain ⟨h', tk', m', news', rfl, F₁, N₁, o⟩ := he
  exact leaveK_ F₁ N₁ fun F₂ N₂ => ret _ _ _ _ (fun b o e hb => F₁.keep b o (G b o e hb)) F₂ N₂ o
/-- what a draw leaves: an int below many; the box -/
noncomputable def OutT (many : Int) (B S : Addr) (c : Int) (news : List (Addr × Obj)) (r : Value) : Prop :=
  ∃ v tv tc nB ys ns nS, r = .int v tv ∧ (0 ≤ v ∧ v < many) ∧ IntsAre ys ns ∧ ys.length ≤ 5 ∧ (B, listOf #[.ref S, .int (c + 1) tc] nB) ∈ news ∧ (S, listOf (List.toArray ys) nS) ∈ news
/-- a draw's contract -/
noncomputable def ConT (many : Int) : Prop :=
  ∀ (w : World) (mean : ExcName → Option Value) (mg mb : Str → Option Value) (dp un : Nat) (gd : Option (List Code)) (cn : Str) (cs : Scope) (a : Addr) (ccd : Value) (cl : List (Str × Addr))
    (outer : List Env) (A₀ : Around) (base h₀ : Heap) (L : Addr) (m : Str → Option Value) (s : Shared) (Q E : Value → Shared → Prop) (B S : Addr) (c : Int) (tc tm : Tok) (nB nS : Nat) (ys : List Value) (ns : List Int),
    Below A₀ base outer h₀ → Fr h₀ L s.heap m → (hd.heap_39 w.params).In h₀ → Top hd.view_39 (looseW hd.view_39 []) mean mg mb h₀ → cs.kind = .function →
    News h₀ L s.heap [(B, listOf #[.ref S, .int c tc] nB), (S, listOf (List.toArray ys) nS)] → @Ne Nat B S → IntsAre ys ns → ys.length ≤ 5 → 0 ≤ c → c < 100 →
    dp + 10 < recursionLimit → un + 8 * 10 < cLine →
    (∀ r h' tk' news', (∀ b o, s.heap.get? b = some o → b ∉ [B, S] → h'.get? b = some o) → Fr h₀ L h' m → News h₀ L h' news' → OutT many B S c news' r → Q r { s with heap := h', toks := tk' }) →
    wpAny (model PySem.Challenge.rw_sa0091_01.row.prog w) (ktrTop dp un gd cn cs L a ccd cl outer) (call (.ref 184) [.ref B, .int many tm]) Q E s
theorem take_end {s s₁ : Shared} {g h : Heap} {L : Addr} {m' : Str → Option Value} {news : List (Addr × Obj)} {tk : Nat} {many : Int} {B S : Addr} {c x : Int} {tv tc : Tok} {nB nS : Nat} {ys : List Value} {ns : List Int} (hm : 0 < many) (hi : IntsAre ys ns) (hl : ys.length ≤ 5)
    (hs : s₁ = { s with heap := h, toks := tk }) (F : Fr g L h m') (N : News g L h news) (hB : (B, listOf #[.ref S, .int (c + 1) tc] nB) ∈ news) (hS : (S, listOf (List.toArray ys) nS) ∈ news) : ConEndN s g L (OutT many B S c) (.ret (.int (x.fmod many) tv)) s₁ :=
  ⟨h, tk, m', news, hs, F, N, x.fmod many, tv, tc, nB, ys, ns, nS, rfl, ⟨Int.fmod_nonneg_of_pos _ hm, Int.fmod_lt_of_pos _ hm⟩, hi, hl, hB, hS⟩
section
theorem con_takeN {many : Int} (hmany : 0 < many) : ConT many := by
  unfold ConT
  k_fill
  intro w mean mg mb dp un gd cn cs aa ccd cl outer A₀ base h₀ L m s Q E B S c tc tm nB nS ys ns BL F X T hk N hBS hi hlen hc0 hc1 hdp hun ret
  have hSB : @Ne Nat S B := Ne.symm hBS
  refine wpAny_call ?_
  k_dflt (refine' code_conN (news := [(B, listOf #[.ref S, .int c tc] nB), (S, listOf (List.toArray ys) nS)]) (Out := OutT many B S c) [(Str.ofString "box", .ref B), (Str.ofString "many", .int many tm)] ?k1 ?k2 ?k3 ?k4 ?k5 ?kA ?kF ?kK ?k6 ?k7 ?k8 ?k9 ?kB ret ?_ ?c2 ?c3 ?c4 ?c5; (case kA => exact rfl); (case kF => exact rfl); (case kK => assumption); (case k1 => k_asm); (case k2 => k_asm); (case k3 => k_asm); (case k4 => exact N); (case k5 => k_asm); (case k6 => k_is); (case k7 => k_is); (case k8 => (first | exact room_lt hdp (by rfl) | exact room_lt0 hdp | exact lt_ble (by rfl) | ktr_room)); (case k9 => exact BindsTo.of_eq rfl); (case c5 => decide); (case kB => exact locs rfl); (case c2 => exact rfl); (case c3 => exact rfl); (case c4 => exact rfl); k_whole; intro g' L' h' tk0 F' N' B' X' T'; (try dsimp only))
  clear ret BL F T N
  have hmn : ¬ many = 0 := by omega
  (try simp only [List.reverse_cons, List.reverse_nil, List.nil_append, List.cons_append, kstB] at F')
  k_with_none
  k_with "call builtin:list.pop" => (k_here; k_dflt ((with_reducible show wpAny _ _ (call (Value.builtin _) [Value.ref _, Value.int _ _]) _ _ _); refine' kl_popAt (k := 0) ?zzF ?zzN ?zzf ?zzk ?zze ?zzU ?zzz ?_; (case zzF => k_asm); (case zzN => k_asm); (case zzU => k_upd); (case zzf => rfl); (case zzk => assumption); (case zze => rfl); (case zzz => assumption)); intro h9 F9 N9; (try dsimp only [List.nil_append, List.cons_append] at N9); (try k_sweep))
  cases hi with
  | nil =>
    (try dsimp only)
    (try (with_reducible show wpAny _ _ _ _ _ _))
    (try k_fold)
    k_steps
    all_goals exact take_end hmany IntsAre.nil hlen rfl (by k_asm) (by k_asm) (by (first | with_reducible kcf_m | kcf_m)) (by (first | with_reducible kcf_m | kcf_m))
  | @cons v tv vs ms hvs =>
    have hk0 : seqIndex? 0 (List.toArray (Value.int v tv :: vs)).size = some 0 := by simp [seqIndex?]
    have hz0 : (List.toArray (Value.int v tv :: vs)).toList.length ≤ sizeLine := by rw [PySem.sizeLine_eq]; simp at hlen ⊢; omega
    have hlen2 : vs.length ≤ 5 := by simp at hlen; omega
    (try dsimp only)
    (try (with_reducible show wpAny _ _ _ _ _ _))
    (try k_fold)
    repeat' (first | (k_unfold; (try dsimp only)) | ((fail_if_success (with_reducible show wpAny _ _ (PySem.call (Value.builtin _) [Value.ref _, Value.int _ _]) _ _ _)); first | walk1 | (dsimp only; walk1)))
    all_goals try (k_dflt (refine' kl_popAt (k := 0) ?zF ?zN ?zf ?zk ?ze ?zU ?zz ?_; (case zF => k_asm); (case zN => k_asm); (case zU => k_upd); (case zf => rfl); (case zk => assumption); (case ze => rfl); (case zz => assumption)); intro h9 F9 N9; (try dsimp only [List.nil_append, List.cons_append] at N9); (try k_sweep))
    all_goals try k_steps
    all_goals first
      | exact take_end hmany hvs hlen2 rfl (by k_asm) (by k_asm) (by (first | with_reducible kcf_m | kcf_m)) (by (first | with_reducible kcf_m | kcf_m))
      | exact take_end hmany (IntsAre.cons v tv hvs) hlen rfl (by k_asm) (by k_asm) (by (first | with_reducible kcf_m | kcf_m)) (by (first | with_reducible kcf_m | kcf_m))
theorem con_take2 : ConT 2 := con_takeN (by decide)
theorem con_take3 : ConT 3 := con_takeN (by decide)
theorem con_take9 : ConT 9 := con_takeN (by decide)
end

end

section
/-- entering a def some of whose names are cells -/
theorem code_conC {prog : Program} {w : World} {A₀ A : Around} {s : Shared} {base h₀ : Heap} {outer : List Env} {L : Addr} {m : Str → Option Value} {env : Env} {K : Frag} {p : Program} {loose : List Str} {mean : ExcName → Option Value} {mg mb : Str → Option Value}
    {name qual : Str} {params : Arguments} {body : List Stmt} {scope : Scope} {dV kV doc pm cdv ct oc : Value} {an od : Option Addr} {osl : Array (Option Value)} {f : Addr} {args : Args} {Q E : Value → Shared → Prop} {Out : Heap → Heap → Value → Prop} (binds : List (Str × Value))
    (B : Below A₀ base outer h₀) (F : Fr h₀ L s.heap m) (X₀ : K.In h₀) (T : Top p loose mean mg mb h₀) (hA : A.frames = some (env :: outer)) (hf : env.frame = some L) (hke : env.scope.kind = .function)
    (ho : K.lookup f = some ⟨oc, od, .func (fnOf name qual params body scope dV kV doc pm an cdv ct), osl⟩) (hcd : codeIn K cdv qual = true) (hroom : A.depth < recursionLimit)
    (hbind : BindsTo s (fnOf name qual params body scope dV kV doc pm an cdv ct) args binds) (hkind : (binds.all fun y => scope.names.lookup y.1 == some .local || scope.names.lookup y.1 == some .cell) = true)
    (hnd : ((cellsFrom 0 scope.names []).map (·.1)).Nodup)
    (ret : ConRet Out s Q)
    (h : ∀ g L' h₁ tk cells, Fr g L' h₁ (bindL (envOfC qual scope L' f cdv).kindOf binds fun _ => none) → News g L' h₁ cells →
      CellsAre (bindC (envOfC qual scope L' f cdv).kindOf binds fun _ => none) (cellsFrom (L' + 1) scope.names []) cells → Below A base (env :: outer) g → K.In g → Top p loose mean mg mb g → (∀ b o, s.heap.get? b = some o → g.get? b = some o) →
      wpAny (model prog w) (A.deeper (envOfC qual scope L' f cdv)) (execs body (envOfC qual scope L' f cdv)) (ConEnd s g L' Out) (fun _ _ => False) { s with heap := h₁, toks := tk })
    (hco : scope.isCoroutine = false) (hgen : scope.isGenerator = false) (hk : scope.kind = .function) : codeAny (model prog w) A (.call (.ref f) args) (fun r s' => match r with | .ok (.ret v) => Q v s' | .ok _ => False | .error e => E e s') s := by
  obtain ⟨FG, BG, st, lv⟩ := groundX (R := fun r s' => match r with | .ok (.ret v) => Q v s' | .ok _ => False | .error e => E e s') B F News.nil hA hf hke
  have X₁ := X₀.keeps st
  have T₁ := T.keeps st
  have keep0 : ∀ b o, s.heap.get? b = some o → (hideAll s.heap (([] : List (Addr × Obj)).map (·.1))).get? b = some o := fun b o e => hideAll_get _ e (by simp)
  have same0 : ∀ b o, (hideAll s.heap (([] : List (Addr × Obj)).map (·.1))).get? b = some o → s.heap.get? b = some o := fun b o e => of_hideAll _ e
  have size0 : (hideAll s.heap (([] : List (Addr × Obj)).map (·.1))).objs.size = s.heap.objs.size := hideAll_size _ _
  generalize hideAll s.heap (([] : List (Addr × Obj)).map (·.1)) = g at *
  refine codeAny_call_function hroom ((X₀.keeps F.keep) _ _ ho) rfl hco hgen rfl (codeRec_of (X₀.keeps F.keep) hcd) (hbind _ _ _ _ ?_)
  refine wpAny_newFunctionEnv_cells hk (kindsX hkind _) fun env' he s' x => ?_
  subst he
  refine ⟨(T.nolimit.keeps F.keep).keeps x.toInCall.keep, codeAny_func ?_⟩
  obtain ⟨h₁, tk, rfl, _⟩ := x.done
  have hk₁ := x.toInCall.keep
  obtain ⟨cells, NC, Y⟩ := Cl.news (h₀ := s.heap) (Nat.le_refl _) fun n c hm => ⟨x.cell n c (lookup_of_mem_nodup (cellsFrom_names scope.names 0 (s.heap.objs.size + 1) [] [] rfl ▸ hnd) hm), x.above n c hm⟩
  refine wpAny_mono (h g s.heap.objs.size h₁ tk cells ⟨x.toInCall.ns, fun b o e => hk₁ b o (same0 b o e), Nat.le_of_eq size0⟩ (fun p hp => ⟨(NC p hp).1, (NC p hp).2.1, ?_⟩) Y BG X₁ T₁ keep0) (fun fl s' he => ?_) fun _ _ x => x.elim
  · cases q : g.get? p.1 with
    | none => rfl
    | some o => have := same0 _ _ q; rw [(NC p hp).2.2] at this; cases this
  · obtain ⟨h', tk', m', news', rfl, F₁, N₁, o⟩ := he
    exact lv _ _ (leaveK_ F₁ N₁ fun _ _ => ret _ _ _ (fun b o e => F₁.keep b o (keep0 b o e)) o)

section
variable {prog : Program} {w : World} {A : Around} {h₀ : Heap} {L : Addr} {m : Str → Option Value} {env : Env} {elt : Expr} {x : Str} {scope : Scope} {cl : List (Str × Addr)} {s : Shared} {Fin : List Value → List (Addr × Obj) → Prop} {news : List (Addr × Obj)}
/-- an element's end -/
noncomputable def EltPost (h₀ : Heap) (L : Addr) (m : Str → Option Value) (s₁ : Shared) (led : List (Addr × Obj)) (q : Q2) (y : Value) (s₂ : Shared) : Prop :=
  ∃ b h' tk' nv, y = .ref b ∧ s₂ = { s₁ with heap := h', toks := tk' } ∧ Fr h₀ L h' m ∧ News h₀ L h' (nv ++ led) ∧ RQ nv b q ∧ Tups nv ∧ Off nv led
theorem elt_endG {s₁ s₂ : Shared} {led all nv : List (Addr × Obj)} {q : Q2} {b : Addr} {h' : Heap} {tk' : Nat} (G : Grown led all nv) (hs : s₂ = { s₁ with heap := h', toks := tk' }) (F : Fr h₀ L h' m) (N : News h₀ L h' all) (hR : RQ nv b q) : EltPost h₀ L m s₁ led q (.ref b) s₂ :=
  ⟨b, h', tk', nv, rfl, hs, F, G.eq ▸ N, hR, G.tups, G.off⟩
theorem comp_led (f : Int → Option Q2) (n : Nat) (a : Int) (rs : List Q2) (hf : compO f n a = some rs)
    (turn : ∀ (k : Int) t q I oI C oC D m₂ ys nt h tk (E' : Value → Shared → Prop), a ≤ k → k < a + (n : Int) → f k = some q → LCg.NsObj oC m₂ → m₂ x = some (.int k t) → Fr h₀ L h m → News h₀ L h ((I, oI) :: (C, oC) :: (D, LCg.lst ys) :: (nt ++ news)) →
      wpAny (model prog w) A (eval elt (compEnvC scope cl C env)) (EltPost h₀ L m { s with heap := h, toks := tk } ((I, oI) :: (C, oC) :: (D, LCg.lst ys) :: (nt ++ news)) q) E' { s with heap := h, toks := tk })
    (fin : ∀ ys nt, AllR nt ys rs → Tups nt → Fin ys (nt ++ news)) : LCg.CompRest prog w A h₀ L m env elt x scope cl s (fun _ => True) (fun i v => ∃ t, v = .int (a + (i : Int)) t) Fin n 0 [] news := by
  have key : ∀ (j i : Nat) (ys : List Value) (nt : List (Addr × Obj)) (r1 r2 : List Q2), i + j = n → compO f j (a + i) = some r2 → rs = r1 ++ r2 → AllR nt ys r1 → Tups nt →
      LCg.CompRest prog w A h₀ L m env elt x scope cl s (fun _ => True) (fun i v => ∃ t, v = .int (a + (i : Int)) t) Fin j i ys (nt ++ news) := by
    intro j
    induction j with
    | zero =>
      intro i ys nt r1 r2 hi hc hr hA hT
      cases hc
      rw [List.append_nil] at hr
      subst hr
      exact LCg.CompRest.zero (fin ys nt hA hT)
    | succ j ih =>
      intro i ys nt r1 r2 hi hc hr hA hT
      simp only [compO] at hc
      obtain ⟨q, hq, hc⟩ := Option.bind_eq_some_iff.mp hc
      obtain ⟨r3, hr3, hc⟩ := Option.map_eq_some_iff.mp hc
      subst hc
      refine LCg.CompRest.succ ?_
      intro v I oI C oC D m₂ h tk E' hv hC hx F N off ne
      obtain ⟨t, rfl⟩ := hv
      refine wpAny_mono (turn _ t q I oI C oC D m₂ ys nt h tk E' (by omega) (by omega) hq hC hx F N) (fun y s₂ hy => ?_) fun _ _ e => e
      obtain ⟨b, h', tk', nv, rfl, rfl, F', N', hR, hTv, hO⟩ := hy
      have off3 := off.mem
      refine ⟨h', tk', (nv ++ nt) ++ news, rfl, F', fun p hp => N' p ?_, LCg.Off3.of fun p hp => ?_, True.intro, ?_⟩
      · rcases List.mem_cons.mp hp with rfl | hp
        · exact List.mem_append_right _ List.mem_cons_self
        · rcases List.mem_cons.mp hp with rfl | hp
          · exact List.mem_append_right _ (List.mem_cons_of_mem _ List.mem_cons_self)
          · rcases List.mem_cons.mp hp with rfl | hp
            · exact List.mem_append_right _ (List.mem_cons_of_mem _ (List.mem_cons_of_mem _ List.mem_cons_self))
            · rw [List.append_assoc] at hp
              rcases List.mem_append.mp hp with hp | hp
              · exact List.mem_append_left _ hp
              · exact List.mem_append_right _ (List.mem_cons_of_mem _ (List.mem_cons_of_mem _ (List.mem_cons_of_mem _ hp)))
      · rw [List.append_assoc] at hp
        rcases List.mem_append.mp hp with hp | hp
        · exact ⟨(hO p hp _ List.mem_cons_self).symm, (hO p hp _ (List.mem_cons_of_mem _ List.mem_cons_self)).symm, (hO p hp _ (List.mem_cons_of_mem _ (List.mem_cons_of_mem _ List.mem_cons_self))).symm⟩
        · exact off3 p hp
      · refine ih (i + 1) _ (nv ++ nt) (r1 ++ [q]) r3 (by omega) (by rw [← hr3]; congr 1; omega) (by rw [hr]; simp) ?_ (hTv.app hT)
        exact AllR.snoc (hA.mono fun p hp => List.mem_append_right _ hp) (hR.mono fun p hp => List.mem_append_left _ hp)
  exact key n 0 [] [] [] rs (by omega) (by simpa using hf) rfl AllR.nil Tups.nil
end
section
variable {f : Addr} {kk : Nat} {vs : List Value} {Pre : Heap → Prop} {w : World} {mean : ExcName → Option Value} {mg mb : Str → Option Value} {dp un : Nat} {gd : Option (List Code)} {cn : Str} {cs : Scope} {a : Addr} {ccd : Value} {cl : List (Str × Addr)}
    {outer : List Env} {A₀ : Around} {base h₀ : Heap} {L : Addr} {m : Str → Option Value} {news : List (Addr × Obj)} {s : Shared} {Q E : Value → Shared → Prop}
theorem fresh_news {g h h' : Heap} {L : Addr} {m : Str → Option Value} {p : Addr × Obj} (F : Fr g L h m) (h1 : h.get? p.1 = none) (h2 : h'.get? p.1 = some p.2) : h'.get? p.1 = some p.2 ∧ p.1 ≠ L ∧ g.get? p.1 = none := by
  refine ⟨h2, fun e => ?_, ?_⟩
  · obtain ⟨oL, _, _, hL, _⟩ := F.ns
    rw [e, hL] at h1; cases h1
  · cases e : g.get? p.1 with
    | none => rfl
    | some o => rw [F.keep _ _ e] at h1; cases h1
theorem con_useT {q : Q2} (C : Con f kk vs Pre (OutR q))
    (B : Below A₀ base outer h₀) (F : Fr h₀ L s.heap m) (X : (hd.heap_39 w.params).In h₀) (N : News h₀ L s.heap news) (T : Top hd.view_39 (looseW hd.view_39 []) mean mg mb h₀) (hk : cs.kind = .function) (P : Pre s.heap)
    (hd : dp + kk < recursionLimit) (hu : un + 8 * kk < cLine)
    (ret : ∀ b nx h' tk', Fr h₀ L h' m → News h₀ L h' (nx ++ news) → RQ nx b q → Tups nx → Off nx news → Q (.ref b) { s with heap := h', toks := tk' }) :
    wpAny (model PySem.Challenge.rw_sa0091_01.row.prog w) (ktrTop dp un gd cn cs L a ccd cl outer) (call (.ref f) vs) Q E s :=
  con_use C B F X N T hk P hd hu fun r h' tk' k F' N' ⟨b, nx, e, hR, hn⟩ => by
    subst e
    refine ret b nx h' tk' F' (fun p hp => ?_) hR (fun p hp => (hn p hp).2.2) (fun p hp q' hq e => ?_)
    · rcases List.mem_append.mp hp with hp | hp
      · exact fresh_news F (hn p hp).1 (hn p hp).2.1
      · exact N' p hp
    · have := (N q' hq).1; rw [e, (hn p hp).1] at this; cases this
theorem con_useS {qs : List Q2} (C : Con f kk vs Pre (OutS qs))
    (B : Below A₀ base outer h₀) (F : Fr h₀ L s.heap m) (X : (hd.heap_39 w.params).In h₀) (N : News h₀ L s.heap news) (T : Top hd.view_39 (looseW hd.view_39 []) mean mg mb h₀) (hk : cs.kind = .function) (P : Pre s.heap)
    (hd : dp + kk < recursionLimit) (hu : un + 8 * kk < cLine)
    (ret : ∀ D n vs nx h' tk', Fr h₀ L h' m → News h₀ L h' ((D, listOf vs.toArray n) :: (nx ++ news)) → AllR nx vs qs → Tups nx → Off nx news → (∀ p ∈ nx ++ news, p.1 ≠ D) → Q (.ref D) { s with heap := h', toks := tk' }) :
    wpAny (model PySem.Challenge.rw_sa0091_01.row.prog w) (ktrTop dp un gd cn cs L a ccd cl outer) (call (.ref f) vs) Q E s :=
  con_use C B F X N T hk P hd hu fun r h' tk' k F' N' ⟨D, n, vs, nx, e, hA, hD, hn⟩ => by
    subst e
    have N2 : News h₀ L h' ((D, listOf vs.toArray n) :: (nx ++ news)) := fun p hp => by
      rcases List.mem_cons.mp hp with rfl | hp
      · exact fresh_news F hD.1 hD.2
      · rcases List.mem_append.mp hp with hp | hp
        · exact fresh_news F (hn p hp).1 (hn p hp).2.1
        · exact N' p hp
    have hT : Tups nx := fun p hp => (hn p hp).2.2
    refine ret D n vs nx h' tk' F' N2 hA hT (fun p hp q' hq e => ?_) fun p hp => ?_
    · have := (N q' hq).1; rw [e, (hn p hp).1] at this; cases this
    · rcases List.mem_append.mp hp with hp | hp
      · exact tup_off N2 List.mem_cons_self (fun p hp => List.mem_cons_of_mem _ (List.mem_append_left _ hp)) hT p hp
      · intro e; have := (N p hp).1; rw [e, hD.1] at this; cases this
end
theorem Grown.ofNews {g h : Heap} {L : Addr} {all : List (Addr × Obj)} (_ : News g L h all) : Grown all all [] := Grown.nil
section
variable {prog : Program} {w : World} {A : Around} {h₀ : Heap} {L : Addr} {m : Str → Option Value} {env : Env} {elt : Expr} {x : Str} {scope : Scope} {cl : List (Str × Addr)} {s₁ : Shared} {Fin : Shared → List Value → List (Addr × Obj) → Prop} {news : List (Addr × Obj)}
theorem comp_src (f : Int → Option Q2) (n : Nat) (rs : List Q2) {r : Addr} {a b : Int} {t u v : Tok} (hh : A.handled = none) (F : Fr h₀ L s₁.heap m) (N : News h₀ L s₁.heap news) (hr : IsRange s₁.heap r a b 1 t u v) (ha : -1000 ≤ a ∧ a ≤ 1000 ∧ -1000 ≤ b ∧ b ≤ 1000) (hn : n = (b - a).toNat) (hf : compO f n a = some rs)
    (turn : ∀ (k : Int) t q I oI C oC D m₂ ys nt gg h tk (E' : Value → Shared → Prop), a ≤ k → k < a + (n : Int) → f k = some q → LCg.NsObj oC m₂ → m₂ x = some (.int k t) → Fr h₀ L h m → News h₀ L h ((I, oI) :: (C, oC) :: (D, LCg.lst ys) :: (nt ++ news)) →
      wpAny (model prog w) A (eval elt (compEnvC scope cl C env)) (EltPost h₀ L m { { s₁ with heap := gg } with heap := h, toks := tk } ((I, oI) :: (C, oC) :: (D, LCg.lst ys) :: (nt ++ news)) q) E' { { s₁ with heap := gg } with heap := h, toks := tk })
    (fin : ∀ gg ys nt, AllR nt ys rs → Tups nt → Fin { s₁ with heap := gg } ys (nt ++ news)) : LCg.CompSrc prog w A h₀ L m env elt x scope cl Fin (.ref r) s₁ := by
  refine LCg.CompSrc.range hh F N hr (small_one (by omega) (by omega) (by omega) (by omega)) (by rw [rangeSize_nat]) (by rw [PySem.sizeLine_eq]; omega) fun gg => ?_
  rw [← hn]
  exact comp_led f n a rs hf (fun k t q I oI C oC D m₂ ys nt h tk E' => turn k t q I oI C oC D m₂ ys nt gg h tk E') (fin gg)
end
theorem add_R {prog : Program} {w : World} {A : Around} {E : Value → Shared → Prop} {s : Shared} {g : Heap} {L D1 D2 : Addr} {m : Str → Option Value} {vs ws : List Value} {n1 n2 : Nat} {all : List (Addr × Obj)} {Q : Value → Shared → Prop}
    (F : Fr g L s.heap m) (N : News g L s.heap all) (h1 : (D1, listOf vs.toArray n1) ∈ all) (h2 : (D2, listOf ws.toArray n2) ∈ all) (hsz : vs.length + ws.length < 1000)
    (h : ∀ D h', Fr g L h' m → News g L h' ((D, listOf (vs ++ ws).toArray 0) :: all) → (∀ p ∈ all, p.1 ≠ D) → Q (.ref D) { s with heap := h' }) :
    wpAny (model prog w) A (binaryOp .Add (.ref D1) (.ref D2)) Q E s :=
  add_lists (vs := vs) (ws := ws) (hsz := by rw [PySem.sizeLine_eq]; omega) F N ⟨_, N.get h1, rfl, _, rfl⟩ ⟨_, N.get h2, rfl, _, rfl⟩ fun h' F' N' => h _ h' F' N' fun p hp e => by have := Heap.lt_size (N p hp).1; rw [e] at this; exact Nat.lt_irrefl _ this
theorem fold_rep (v : Value) : ∀ (n : Nat) (acc : Array Value), List.foldl (fun x1 x2 => x1 ++ x2) acc (List.replicate n #[v]) = acc ++ (List.replicate n v).toArray := by
  intro n
  induction n with
  | zero => intro acc; simp
  | succ n ih =>
    intro acc
    rw [List.replicate_succ, List.foldl_cons, ih, List.replicate_succ]
    apply Array.ext'
    simp
theorem mul_R {prog : Program} {w : World} {A : Around} {E : Value → Shared → Prop} {s : Shared} {g : Heap} {L D1 : Addr} {m : Str → Option Value} {v : Value} {n1 : Nat} {x : Int} {u : Tok} {all : List (Addr × Obj)} {Q : Value → Shared → Prop}
    (F : Fr g L s.heap m) (N : News g L s.heap all) (h1 : (D1, listOf #[v] n1) ∈ all) (h0 : 0 ≤ x) (h2 : x < 1000)
    (h : ∀ D h', Fr g L h' m → News g L h' ((D, listOf (List.replicate x.toNat v).toArray 0) :: all) → (∀ p ∈ all, p.1 ≠ D) → Q (.ref D) { s with heap := h' }) :
    wpAny (model prog w) A (binaryOp .Mult (.ref D1) (.int x u)) Q E s := by
  refine mul_list F N (N.get h1) (by omega) (by omega) (by simp; omega) fun h' F' N' => h _ h' F' ?_ fun p hp e => by have := Heap.lt_size (N p hp).1; rw [e] at this; exact Nat.lt_irrefl _ this
  have e : (if (#[v] : Array Value).isEmpty = true then 0 else x.toNat) = x.toNat := rfl
  rw [e, fold_rep] at N'
  simpa [W.listOf] using N'
theorem conEndSA {s s₁ : Shared} {qs : List Q2} {g h : Heap} {L D : Addr} {m' : Str → Option Value} {vs : List Value} {n : Nat} {nt all : List (Addr × Obj)} {tk : Nat} (keep0 : ∀ b o, s.heap.get? b = some o → g.get? b = some o)
    (hs : s₁ = { s with heap := h, toks := tk }) (F : Fr g L h m') (N : News g L h all) (hm : (D, listOf vs.toArray n) ∈ all) (hA : AllR nt vs qs) (hT : Tups nt) (sub : ∀ p ∈ nt, p ∈ all) : ConEnd s g L (OutS qs) (.ret (.ref D)) s₁ := conEndS keep0 hs F N hm sub hA hT

end

section
section
variable {prog : Program} {w : World} {A : Around} {E : Value → Shared → Prop} {s : Shared} {env : Env} {h₀ : Heap} {Q : Flow → Shared → Prop}
/-- the turns of a for over a range that is written, its name of any kind -/
noncomputable def CellRest (prog : Program) (w : World) (A : Around) (E : Value → Shared → Prop) (h₀ : Heap) (env : Env) (target : Expr) (body : List Stmt) (Q : Flow → Shared → Prop) (s : Shared) (I : Addr) (a : Int) (n : Nat) : Nat → Nat → (Str → Option Value) → List (Addr × Obj) → Prop
  | 0, _, m, news => ∀ h tk, Fr h₀ env.locals h m → News h₀ env.locals h news → Q .next { s with heap := h, toks := tk }
  | k + 1, i, m, news => ∀ t h tk, Fr h₀ env.locals h m → News h₀ env.locals h ((I, itR (a + ((i + 1 : Nat) : Int)) ((n : Int) - ((i + 1 : Nat) : Int))) :: news) →
      wpAny (model prog w) A (assign target env (.int (a + (i : Int)) t)) (fun _ s₂ => wpAny (model prog w) A (execs body env)
        (UnrPost h₀ env.locals { s with heap := h, toks := tk } I (itR (a + ((i + 1 : Nat) : Int)) ((n : Int) - ((i + 1 : Nat) : Int))) (CellRest prog w A E h₀ env target body Q s I a n k (i + 1)) Q) E s₂) E { s with heap := h, toks := tk }
noncomputable def CellSrc (prog : Program) (w : World) (A : Around) (E : Value → Shared → Prop) (h₀ : Heap) (env : Env) (target : Expr) (body : List Stmt) (Q : Flow → Shared → Prop) (xv : Value) (s₁ : Shared) : Prop :=
  ∃ r a b t u v n m news, xv = .ref r ∧ A.handled = none ∧ IsRange s₁.heap r a b 1 t u v ∧ Builtin.Range.small a b 1 = true ∧ Builtin.Range.rangeSize a b 1 = ((n : Nat) : Int) ∧ Fr h₀ env.locals s₁.heap m ∧ News h₀ env.locals s₁.heap news ∧
    ∀ I g, (∀ p ∈ news, p.1 < I) → CellRest prog w A E h₀ env target body Q { s₁ with heap := g } I a n n 0 m news
theorem For_cell {target iter : Expr} {body : List Stmt} {pos : Pos} {m₀ : Str → Option Value} (F₀ : Fr h₀ env.locals s.heap m₀)
    (h : wpAny (model prog w) A (eval iter env) (CellSrc prog w A E h₀ env target body Q) E s)
    (hs : ∀ x, foldedSetIterable iter env x = pure x := by intro _; rfl) (ht : ∀ it v, letOwnedTupleGo target it v = pure () := by intro _ _; rfl)
    (hE : PassesOwn (model prog w) A env E := by passes_own) :
    wpAny (model prog w) A (exec (.For target iter body [] pos) env) Q E s := by
  refine wpAny_For (wpAny_mono h (fun xv s₁ h₁ => ?_) fun _ _ e => e) hs
  obtain ⟨r, a, b, t, u, v, n, m, news, rfl, hh, hr, hsm, hn, F, N, rest⟩ := h₁
  refine wpAny_pyIter_range hr hsm ?_
  have rest := rest s₁.heap.objs.size (s₁.heap.push { cls := .type "range_iterator", data := .fields #[rawInt a, rawInt (Builtin.Range.rangeSize a b 1), rawInt 1] }) fun p hp => Heap.lt_size (N p hp).1
  have W := LCg.range_walks (prog := prog) (w := w) (I := s₁.heap.objs.size) hh a n
  have hI₀ : h₀.get? s₁.heap.objs.size = none := next_is_new F
  have hIL : env.locals ≠ s₁.heap.objs.size := Nat.ne_of_lt F.ns.lt
  have st₀ : IsRangeIter (s₁.heap.push { cls := .type "range_iterator", data := .fields #[rawInt a, rawInt (Builtin.Range.rangeSize a b 1), rawInt 1] }) s₁.heap.objs.size (a + ((0 : Nat) : Int) * 1) ((n : Int) - ((0 : Nat) : Int)) 1 := by
    show _ = _
    rw [hn]; simpa using Heap.get?_push_size _ rfl
  have F₁ := F.push { cls := .type "range_iterator", data := .fields #[rawInt a, rawInt (Builtin.Range.rangeSize a b 1), rawInt 1] }
  have N₁ : News h₀ env.locals (s₁.heap.push { cls := .type "range_iterator", data := .fields #[rawInt a, rawInt (Builtin.Range.rangeSize a b 1), rawInt 1] }) news := fun p hp => ⟨Heap.get?_push_of_some _ (N p hp).1, (N p hp).2⟩
  have off₁ : ∀ p ∈ news, p.1 ≠ s₁.heap.objs.size := fun p hp => Nat.ne_of_lt (Heap.lt_size (N p hp).1)
  generalize hg : s₁.heap.push { cls := .type "range_iterator", data := .fields #[rawInt a, rawInt (Builtin.Range.rangeSize a b 1), rawInt 1] } = g at *
  generalize s₁.heap.objs.size = I at *
  refine codeAny_forLoop (ht := ht _) (fun k s' => ∃ h' tk m' nx i, s' = { s₁ with heap := h', toks := tk } ∧ IsRangeIter h' I (a + (i : Nat) * 1) ((n : Int) - (i : Nat)) 1 ∧ Fr h₀ env.locals h' m' ∧ News h₀ env.locals h' nx ∧ (∀ p ∈ nx, p.1 ≠ I) ∧
      CellRest prog w A E h₀ env target body Q { s₁ with heap := g } I a n (n - i) i m' nx ∧ i ≤ n ∧ k = n + 1 - i) ?_ (n + 1) ⟨g, _, m, news, 0, rfl, st₀, F₁, N₁, off₁, rest, Nat.zero_le _, rfl⟩
  rintro k s' ⟨h', tk, m', nx, i, rfl, st, F', N', off, R, hi, rfl⟩
  by_cases hlt : i < n
  · obtain ⟨j, hj⟩ : ∃ j, n - i = j + 1 := sub_succ hlt
    rw [hj] at R
    refine W.item i _ _ _ hlt st fun v h₁ tk₁ hP st₁ hk₁ => ?_
    obtain ⟨t', rfl⟩ := hP
    have st₂ : h₁.get? I = some (itR (a + ((i + 1 : Nat) : Int)) ((n : Int) - ((i + 1 : Nat) : Int))) := by
      have q : IsRangeIter h₁ I (a + ((i + 1 : Nat) : Int) * 1) ((n : Int) - ((i + 1 : Nat) : Int)) 1 := st₁
      rw [Int.mul_one] at q
      exact q
    have N₂ : News h₀ env.locals h₁ ((I, itR (a + ((i + 1 : Nat) : Int)) ((n : Int) - ((i + 1 : Nat) : Int))) :: nx) := fun p hp => by
      rcases List.mem_cons.mp hp with rfl | hp
      · exact ⟨st₂, Ne.symm hIL, hI₀⟩
      · exact LCg.news_but N' hk₁ off p hp
    refine wpAny_passesOwn hE (wpAny_mono (R t' h₁ tk₁ (LCg.fr_but F' hk₁ hIL hI₀) N₂) (fun _ s₂ z => wpAny_passesOwn hE (wpAny_mono z (fun f s₃ p => ?_) fun _ _ e => e)) fun _ _ e => e)
    have up : UnrEnd h₀ env.locals { { s₁ with heap := g } with heap := h₁, toks := tk₁ } I (itR (a + ((i + 1 : Nat) : Int)) ((n : Int) - ((i + 1 : Nat) : Int))) (CellRest prog w A E h₀ env target body Q { s₁ with heap := g } I a n j (i + 1)) s₃ →
        ∃ m, m < n + 1 - i ∧ ∃ h' tk m' nx i, s₃ = { s₁ with heap := h', toks := tk } ∧ IsRangeIter h' I (a + (i : Nat) * 1) ((n : Int) - (i : Nat)) 1 ∧ Fr h₀ env.locals h' m' ∧ News h₀ env.locals h' nx ∧ (∀ p ∈ nx, p.1 ≠ I) ∧
          CellRest prog w A E h₀ env target body Q { s₁ with heap := g } I a n (n - i) i m' nx ∧ i ≤ n ∧ m = n + 1 - i := by
      rintro ⟨h₂, tk₂, m₂, nx₂, rfl, F₂, N₂', off₂, R₂⟩
      refine ⟨n + 1 - (i + 1), by omega, h₂, tk₂, m₂, nx₂, i + 1, rfl, ?_, F₂, fun p hp => N₂' p (List.mem_cons_of_mem _ hp), off₂, ?_, hlt, rfl⟩
      · show h₂.get? I = _
        rw [(N₂' _ List.mem_cons_self).1, Int.mul_one]; rfl
      · rw [show n - (i + 1) = j by omega]; exact R₂
    cases f with
    | ret v => exact p
    | brk => exact p
    | next => exact up p
    | cont => exact up p
  · obtain rfl : i = n := Nat.le_antisymm hi (Nat.not_lt.mp hlt)
    rw [Nat.sub_self] at R
    refine W.done _ _ _ st fun h₁ tk₁ hk₁ => wpAny_execs_nil ?_
    exact R h₁ tk₁ (LCg.fr_but F' hk₁ hIL hI₀) (LCg.news_but N' hk₁ off)
end
section
variable {prog : Program} {w : World} {A : Around} {E : Value → Shared → Prop} {s : Shared} {env : Env} {h₀ : Heap} {Q : Flow → Shared → Prop} {target : Expr} {body : List Stmt} {I : Addr} {a : Int} {n k i : Nat} {m : Str → Option Value} {news : List (Addr × Obj)}
theorem CellRest.zero (h : ∀ h tk, Fr h₀ env.locals h m → News h₀ env.locals h news → Q .next { s with heap := h, toks := tk }) : CellRest prog w A E h₀ env target body Q s I a n 0 i m news := h
theorem CellRest.succ (h : ∀ t h tk, Fr h₀ env.locals h m → News h₀ env.locals h ((I, itR (a + ((i + 1 : Nat) : Int)) ((n : Int) - ((i + 1 : Nat) : Int))) :: news) →
      wpAny (model prog w) A (assign target env (.int (a + (i : Int)) t)) (fun _ s₂ => wpAny (model prog w) A (execs body env)
        (UnrPost h₀ env.locals { s with heap := h, toks := tk } I (itR (a + ((i + 1 : Nat) : Int)) ((n : Int) - ((i + 1 : Nat) : Int))) (CellRest prog w A E h₀ env target body Q s I a n k (i + 1)) Q) E s₂) E { s with heap := h, toks := tk }) :
    CellRest prog w A E h₀ env target body Q s I a n (k + 1) i m news := h
theorem CellSrc.intro {r : Addr} {b : Int} {t u v : Tok} (hh : A.handled = none) (hr : IsRange s.heap r a b 1 t u v) (hsm : Builtin.Range.small a b 1 = true) (hn : Builtin.Range.rangeSize a b 1 = ((n : Nat) : Int)) (F : Fr h₀ env.locals s.heap m) (N : News h₀ env.locals s.heap news)
    (h : ∀ I g, (∀ p ∈ news, p.1 < I) → CellRest prog w A E h₀ env target body Q { s with heap := g } I a n n 0 m news) : CellSrc prog w A E h₀ env target body Q (.ref r) s :=
  ⟨r, a, b, t, u, v, n, m, news, rfl, hh, hr, hsm, hn, F, N, h⟩
end

end

section

theorem con_mixed (a b : Addr) (as bs : List Q2) (at' : Int) (t : Tok) (q : Q2) (hq : mixedF as bs at' = some q) (h0 : 0 ≤ at') (h1 : at' < as.length) (h2 : at' < bs.length) (h3 : as.length < 64) (h4 : bs.length < 64) :
    Con 120 16 [.ref a, .ref b, .int at' t] (fun h => SQ h a as ∧ SQ h b bs) (OutR q) := by
  unfold Con
  k_fill
  intro w mean mg mb dp un gd cn cs aa ccd cl outer A₀ base h₀ L m s Q E B F X T hk P hdp hun ret
  refine wpAny_call ?_
  k_dflt (refine' code_con [(Str.ofString "a", .ref a), (Str.ofString "b", .ref b), (Str.ofString "at", .int at' t)] ?k1 ?k2 ?k3 ?k5 ?kA ?kF ?kK ?k6 ?k7 ?k8 ?k9 ?kB ret ?_ ?c2 ?c3 ?c4 ?c5; (case kA => exact rfl); (case kF => exact rfl); (case kK => assumption); (case k1 => k_asm); (case k2 => k_asm); (case k3 => k_asm); (case k5 => k_asm); (case k6 => k_is); (case k7 => k_is); (case k8 => (first | exact room_lt hdp (by rfl) | exact room_lt0 hdp | exact lt_ble (by rfl) | ktr_room)); (case k9 => exact BindsTo.of_eq rfl); (case c5 => decide); (case kB => exact locs rfl); (case c2 => exact rfl); (case c3 => exact rfl); (case c4 => exact rfl); k_whole; intro g' L' h' tk0 F' N' B' X' T' keep0; (try dsimp only))
  clear ret B F T
  (try simp only [List.reverse_cons, List.reverse_nil, List.nil_append, List.cons_append, kstB] at F')
  k_with_none
  k_with "call ref" => (k_here; k_dflt (refine' con_useR (q_radd _ _ _ _ _ ?zzhq) ?zzk1 ?zzk2 ?zzk3 ?zzk4 ?zzk5 ?zzkK ?zzkp ?zzkd ?zzku ?_; (case zzk1 => k_asm); (case zzk2 => k_asm); (case zzk3 => k_asm); (case zzk4 => k_asm); (case zzk5 => k_asm); (case zzkK => first | exact rfl | assumption); (case zzkp => refine ⟨?_, ?_⟩ <;> (first | exact AQ.at (by k_asm) (by k_asm) | exact RQ.at (by k_asm) (by k_asm) (by k_asm) (by k_asm) | exact RQ.at (by k_asm) (by k_asm) (by k_asm) (RQ.mono (by k_asm) (by (first | with_reducible kcf_all | kcf_all))) | exact RQ.at (by k_asm) News.nil (by k_asm) (Or.inr (Or.inl ⟨rfl, rfl⟩)) | exact RQ.at (by k_asm) News.nil (by k_asm) (Or.inr (Or.inr ⟨rfl, rfl⟩)))); (case zzkd => (first | exact room_lt hdp (by rfl) | exact room_lt0 hdp | exact lt_ble (by rfl) | ktr_room)); (case zzku => (first | exact unit_lt hun (by rfl) | exact lt_ble (by rfl) | ktr_units)); (case zzhq => assumption)); intro D9 t9 u9 c9 h9 tk9 F9 N9 l9 r9; (try ((with_reducible rename Grown _ _ _ => gX); (have G9 := Grown.consN N9 gX l9 rfl); clear gX)); clear l9; (try k_sweep); (try dsimp only); (try k_fold))
  k_with "call ref" => (k_here; k_dflt (refine' con_useR (q_rsub _ _ _ _ _ ?zzhq) ?zzk1 ?zzk2 ?zzk3 ?zzk4 ?zzk5 ?zzkK ?zzkp ?zzkd ?zzku ?_; (case zzk1 => k_asm); (case zzk2 => k_asm); (case zzk3 => k_asm); (case zzk4 => k_asm); (case zzk5 => k_asm); (case zzkK => first | exact rfl | assumption); (case zzkp => refine ⟨?_, ?_⟩ <;> (first | exact AQ.at (by k_asm) (by k_asm) | exact RQ.at (by k_asm) (by k_asm) (by k_asm) (by k_asm) | exact RQ.at (by k_asm) (by k_asm) (by k_asm) (RQ.mono (by k_asm) (by (first | with_reducible kcf_all | kcf_all))) | exact RQ.at (by k_asm) News.nil (by k_asm) (Or.inr (Or.inl ⟨rfl, rfl⟩)) | exact RQ.at (by k_asm) News.nil (by k_asm) (Or.inr (Or.inr ⟨rfl, rfl⟩)))); (case zzkd => (first | exact room_lt hdp (by rfl) | exact room_lt0 hdp | exact lt_ble (by rfl) | ktr_room)); (case zzku => (first | exact unit_lt hun (by rfl) | exact lt_ble (by rfl) | ktr_units)); (case zzhq => assumption)); intro D9 t9 u9 c9 h9 tk9 F9 N9 l9 r9; (try ((with_reducible rename Grown _ _ _ => gX); (have G9 := Grown.consN N9 gX l9 rfl); clear gX)); clear l9; (try k_sweep); (try dsimp only); (try k_fold))
  k_with "call ref" => (k_here; k_dflt (refine' con_useR (q_rmul _ _ _ _ _ ?zzhq) ?zzk1 ?zzk2 ?zzk3 ?zzk4 ?zzk5 ?zzkK ?zzkp ?zzkd ?zzku ?_; (case zzk1 => k_asm); (case zzk2 => k_asm); (case zzk3 => k_asm); (case zzk4 => k_asm); (case zzk5 => k_asm); (case zzkK => first | exact rfl | assumption); (case zzkp => refine ⟨?_, ?_⟩ <;> (first | exact AQ.at (by k_asm) (by k_asm) | exact RQ.at (by k_asm) (by k_asm) (by k_asm) (by k_asm) | exact RQ.at (by k_asm) (by k_asm) (by k_asm) (RQ.mono (by k_asm) (by (first | with_reducible kcf_all | kcf_all))) | exact RQ.at (by k_asm) News.nil (by k_asm) (Or.inr (Or.inl ⟨rfl, rfl⟩)) | exact RQ.at (by k_asm) News.nil (by k_asm) (Or.inr (Or.inr ⟨rfl, rfl⟩)))); (case zzkd => (first | exact room_lt hdp (by rfl) | exact room_lt0 hdp | exact lt_ble (by rfl) | ktr_room)); (case zzku => (first | exact unit_lt hun (by rfl) | exact lt_ble (by rfl) | ktr_units)); (case zzhq => assumption)); intro D9 t9 u9 c9 h9 tk9 F9 N9 l9 r9; (try ((with_reducible rename Grown _ _ _ => gX); (have G9 := Grown.consN N9 gX l9 rfl); clear gX)); clear l9; (try k_sweep); (try dsimp only); (try k_fold))
  k_with "call ref" => (k_here; k_dflt (refine' con_useR (q_rdiv _ _ _ _ _ ?zzhq) ?zzk1 ?zzk2 ?zzk3 ?zzk4 ?zzk5 ?zzkK ?zzkp ?zzkd ?zzku ?_; (case zzk1 => k_asm); (case zzk2 => k_asm); (case zzk3 => k_asm); (case zzk4 => k_asm); (case zzk5 => k_asm); (case zzkK => first | exact rfl | assumption); (case zzkp => refine ⟨?_, ?_⟩ <;> (first | exact AQ.at (by k_asm) (by k_asm) | exact RQ.at (by k_asm) (by k_asm) (by k_asm) (by k_asm) | exact RQ.at (by k_asm) (by k_asm) (by k_asm) (RQ.mono (by k_asm) (by (first | with_reducible kcf_all | kcf_all))) | exact RQ.at (by k_asm) News.nil (by k_asm) (Or.inr (Or.inl ⟨rfl, rfl⟩)) | exact RQ.at (by k_asm) News.nil (by k_asm) (Or.inr (Or.inr ⟨rfl, rfl⟩)))); (case zzkd => (first | exact room_lt hdp (by rfl) | exact room_lt0 hdp | exact lt_ble (by rfl) | ktr_room)); (case zzku => (first | exact unit_lt hun (by rfl) | exact lt_ble (by rfl) | ktr_units)); (case zzhq => assumption)); intro D9 t9 u9 c9 h9 tk9 F9 N9 l9 r9; (try ((with_reducible rename Grown _ _ _ => gX); (have G9 := Grown.consN N9 gX l9 rfl); clear gX)); clear l9; (try k_sweep); (try dsimp only); (try k_fold))
  k_with "subscriptTail" => (k_here; (with_reducible show wpAny _ _ (subscriptTail _ _ (Value.ref _) (Value.int _ _)) _ _ _); k_dflt (refine' sub_S ?zzk1 ?zzk2 ?zzk3 ?zzk4 ?zzk5 ?_ ?zzk6; (case zzk1 => k_asm); (case zzk2 => assumption); (case zzk3 => omega); (case zzk4 => omega); (case zzk5 => omega); (case zzk6 => with_unfolding_all rfl)); intro b9 q9; (try dsimp only); (try k_fold))
  k_with "compareOp NotEq ref ref" => (k_here; k_dflt (refine' ne_Q ?zzk1 ?zzk2 ?zzku ?_; (case zzk1 => first | exact AQ.at (by k_asm) (by k_asm) | exact RQ.at (by k_asm) (by k_asm) (by k_asm) (by k_asm) | exact RQ.at (by k_asm) (by k_asm) (by k_asm) (RQ.mono (by k_asm) (by (first | with_reducible kcf_all | kcf_all))) | exact RQ.at (by k_asm) News.nil (by k_asm) (Or.inr (Or.inl ⟨rfl, rfl⟩)) | exact RQ.at (by k_asm) News.nil (by k_asm) (Or.inr (Or.inr ⟨rfl, rfl⟩))); (case zzk2 => first | exact AQ.at (by k_asm) (by k_asm) | exact RQ.at (by k_asm) (by k_asm) (by k_asm) (by k_asm) | exact RQ.at (by k_asm) (by k_asm) (by k_asm) (RQ.mono (by k_asm) (by (first | with_reducible kcf_all | kcf_all))) | exact RQ.at (by k_asm) News.nil (by k_asm) (Or.inr (Or.inl ⟨rfl, rfl⟩)) | exact RQ.at (by k_asm) News.nil (by k_asm) (Or.inr (Or.inr ⟨rfl, rfl⟩))); (case zzku => (first | exact unit_lt hun (by rfl) | exact lt_ble (by rfl) | ktr_units))); (first | rw [decide_eq_true (by k_asm)] | rw [decide_eq_false (by k_asm)]); (try dsimp only); (try k_fold))
  have La := P.1.keeps keep0
  have Lb := P.2.keeps keep0
  have R2 := twoR w X'
  clear P
  unfold mixedF at hq
  (try dsimp only)
  (try (with_reducible show wpAny _ _ _ _ _ _))
  (try k_fold)
  repeat' (first | (k_unfold; (try dsimp only)) | ((fail_if_success (with_reducible show wpAny _ _ (pyIter (Value.ref _)) _ _ _)); first | walk1 | (dsimp only; walk1)))
  (rename Fr _ _ _ _ => lF'); (rename News _ _ _ _ => lN'); (rename IsRange _ _ _ _ _ _ _ _ => lR)
  with_unfolding_all refine' for_one (x := Str.ofString "spot") _ q (0, 1) (Str.ofString "found") [] lR lF' lN' (by rfl) (by first | exact small_nat (by k_asm) | exact ⟨by decide, by decide, by omega, by omega⟩ | omega) (by first | exact nat_toNat0 _ | exact nat_toNat1 _ | exact congrArg Int.toNat (Int.sub_zero _).symm | exact congrArg Int.toNat (Int.add_sub_cancel _ _).symm | omega) hq (Or.inr (Or.inl ⟨rfl, rfl⟩)) (by rfl) ?turn ?done
  · intro k' t' c c' v u st h tk led hk0 hk1 hc hled hR hT hO F1 N1
    clear lF' lN' lR hq
    (try dsimp only at hc)
    have G1 := Grown.nil (base := st ++ led)
    by_cases hz1 : gt as k' = (0, 1)
    · rw [if_neg (fun hh => hh.1 hz1)] at hc
      cases hc
      (try dsimp only)
      (try (with_reducible show wpAny _ _ _ _ _ _))
      (try k_fold)
      k_steps
      exact one_endG (by k_asm) rfl (by k_asm) (by k_asm) hT hO (RQ.mono hR (fun p hp => List.mem_append_right _ hp)) rfl (by ktm_same2)
    · by_cases hz2 : gt bs (at' - k') = (0, 1)
      · rw [if_neg (fun hh => hh.2 hz2)] at hc
        cases hc
        (try dsimp only)
        (try (with_reducible show wpAny _ _ _ _ _ _))
        (try k_fold)
        k_steps
        exact one_endG (by k_asm) rfl (by k_asm) (by k_asm) hT hO (RQ.mono hR (fun p hp => List.mem_append_right _ hp)) rfl (by ktm_same2)
      · rw [if_pos ⟨hz1, hz2⟩] at hc
        obtain ⟨y, hy1, hy2⟩ := Option.bind_eq_some_iff.mp hc
        clear hc
        (try dsimp only)
        (try (with_reducible show wpAny _ _ _ _ _ _))
        (try k_fold)
        k_steps
        exact one_endG (by k_asm) rfl (by k_asm) (by k_asm) hT hO (RQ.mono (by k_asm) (by (first | with_reducible kcf_all | kcf_all))) rfl (by ktm_same2)
  · intro v u st h tk hR hT hO F1 N1
    clear lF' lN' lR hq
    (try dsimp only)
    (try (with_reducible show wpAny _ _ _ _ _ _))
    (try k_fold)
    k_steps
    exact conEndR keep0 rfl (by k_asm) (by k_asm) hR hT

end

section

theorem con_sinv (a : Addr) (as qs : List Q2) (hq : sinvF as = some qs) (h0 : 0 < as.length) (h3 : as.length < 64) :
    Con 132 40 [.ref a] (fun h => SQ h a as) (OutS qs) := by
  unfold Con
  k_fill
  intro w mean mg mb dp un gd cn cs aa ccd cl outer A₀ base h₀ L m s Q E B F X T hk P hdp hun ret
  refine wpAny_call ?_
  k_dflt (refine' code_con [(Str.ofString "a", .ref a)] ?k1 ?k2 ?k3 ?k5 ?kA ?kF ?kK ?k6 ?k7 ?k8 ?k9 ?kB ret ?_ ?c2 ?c3 ?c4 ?c5; (case kA => exact rfl); (case kF => exact rfl); (case kK => assumption); (case k1 => k_asm); (case k2 => k_asm); (case k3 => k_asm); (case k5 => k_asm); (case k6 => k_is); (case k7 => k_is); (case k8 => (first | exact room_lt hdp (by rfl) | exact room_lt0 hdp | exact lt_ble (by rfl) | ktr_room)); (case k9 => exact BindsTo.of_eq rfl); (case c5 => decide); (case kB => exact locs rfl); (case c2 => exact rfl); (case c3 => exact rfl); (case c4 => exact rfl); k_whole; intro g' L' h' tk0 F' N' B' X' T' keep0; (try dsimp only))
  clear ret B F T
  (try simp only [List.reverse_cons, List.reverse_nil, List.nil_append, List.cons_append, kstB] at F')
  k_with_none
  k_with "call ref" => (k_here; k_dflt (refine' con_useR (q_radd _ _ _ _ _ ?zzhq) ?zzk1 ?zzk2 ?zzk3 ?zzk4 ?zzk5 ?zzkK ?zzkp ?zzkd ?zzku ?_; (case zzk1 => k_asm); (case zzk2 => k_asm); (case zzk3 => k_asm); (case zzk4 => k_asm); (case zzk5 => k_asm); (case zzkK => first | exact rfl | assumption); (case zzkp => refine ⟨?_, ?_⟩ <;> (first | exact AQ.at (by k_asm) (by k_asm) | exact RQ.at (by k_asm) (by k_asm) (by k_asm) (by k_asm) | exact RQ.at (by k_asm) (by k_asm) (by k_asm) (RQ.mono (by k_asm) (by (first | with_reducible kcf_all | kcf_all))) | exact RQ.at (by k_asm) News.nil (by k_asm) (Or.inr (Or.inl ⟨rfl, rfl⟩)) | exact RQ.at (by k_asm) News.nil (by k_asm) (Or.inr (Or.inr ⟨rfl, rfl⟩)))); (case zzkd => (first | exact room_lt hdp (by rfl) | exact room_lt0 hdp | exact lt_ble (by rfl) | ktr_room)); (case zzku => (first | exact unit_lt hun (by rfl) | exact lt_ble (by rfl) | ktr_units)); (case zzhq => assumption)); intro D9 t9 u9 c9 h9 tk9 F9 N9 l9 r9; (try ((with_reducible rename Grown _ _ _ => gX); (have G9 := Grown.consN N9 gX l9 rfl); clear gX)); clear l9; (try k_sweep); (try dsimp only); (try k_fold))
  k_with "call ref" => (k_here; k_dflt (refine' con_useR (q_rsub _ _ _ _ _ ?zzhq) ?zzk1 ?zzk2 ?zzk3 ?zzk4 ?zzk5 ?zzkK ?zzkp ?zzkd ?zzku ?_; (case zzk1 => k_asm); (case zzk2 => k_asm); (case zzk3 => k_asm); (case zzk4 => k_asm); (case zzk5 => k_asm); (case zzkK => first | exact rfl | assumption); (case zzkp => refine ⟨?_, ?_⟩ <;> (first | exact AQ.at (by k_asm) (by k_asm) | exact RQ.at (by k_asm) (by k_asm) (by k_asm) (by k_asm) | exact RQ.at (by k_asm) (by k_asm) (by k_asm) (RQ.mono (by k_asm) (by (first | with_reducible kcf_all | kcf_all))) | exact RQ.at (by k_asm) News.nil (by k_asm) (Or.inr (Or.inl ⟨rfl, rfl⟩)) | exact RQ.at (by k_asm) News.nil (by k_asm) (Or.inr (Or.inr ⟨rfl, rfl⟩)))); (case zzkd => (first | exact room_lt hdp (by rfl) | exact room_lt0 hdp | exact lt_ble (by rfl) | ktr_room)); (case zzku => (first | exact unit_lt hun (by rfl) | exact lt_ble (by rfl) | ktr_units)); (case zzhq => assumption)); intro D9 t9 u9 c9 h9 tk9 F9 N9 l9 r9; (try ((with_reducible rename Grown _ _ _ => gX); (have G9 := Grown.consN N9 gX l9 rfl); clear gX)); clear l9; (try k_sweep); (try dsimp only); (try k_fold))
  k_with "call ref" => (k_here; k_dflt (refine' con_useR (q_rmul _ _ _ _ _ ?zzhq) ?zzk1 ?zzk2 ?zzk3 ?zzk4 ?zzk5 ?zzkK ?zzkp ?zzkd ?zzku ?_; (case zzk1 => k_asm); (case zzk2 => k_asm); (case zzk3 => k_asm); (case zzk4 => k_asm); (case zzk5 => k_asm); (case zzkK => first | exact rfl | assumption); (case zzkp => refine ⟨?_, ?_⟩ <;> (first | exact AQ.at (by k_asm) (by k_asm) | exact RQ.at (by k_asm) (by k_asm) (by k_asm) (by k_asm) | exact RQ.at (by k_asm) (by k_asm) (by k_asm) (RQ.mono (by k_asm) (by (first | with_reducible kcf_all | kcf_all))) | exact RQ.at (by k_asm) News.nil (by k_asm) (Or.inr (Or.inl ⟨rfl, rfl⟩)) | exact RQ.at (by k_asm) News.nil (by k_asm) (Or.inr (Or.inr ⟨rfl, rfl⟩)))); (case zzkd => (first | exact room_lt hdp (by rfl) | exact room_lt0 hdp | exact lt_ble (by rfl) | ktr_room)); (case zzku => (first | exact unit_lt hun (by rfl) | exact lt_ble (by rfl) | ktr_units)); (case zzhq => assumption)); intro D9 t9 u9 c9 h9 tk9 F9 N9 l9 r9; (try ((with_reducible rename Grown _ _ _ => gX); (have G9 := Grown.consN N9 gX l9 rfl); clear gX)); clear l9; (try k_sweep); (try dsimp only); (try k_fold))
  k_with "call ref" => (k_here; k_dflt (refine' con_useR (q_rdiv _ _ _ _ _ ?zzhq) ?zzk1 ?zzk2 ?zzk3 ?zzk4 ?zzk5 ?zzkK ?zzkp ?zzkd ?zzku ?_; (case zzk1 => k_asm); (case zzk2 => k_asm); (case zzk3 => k_asm); (case zzk4 => k_asm); (case zzk5 => k_asm); (case zzkK => first | exact rfl | assumption); (case zzkp => refine ⟨?_, ?_⟩ <;> (first | exact AQ.at (by k_asm) (by k_asm) | exact RQ.at (by k_asm) (by k_asm) (by k_asm) (by k_asm) | exact RQ.at (by k_asm) (by k_asm) (by k_asm) (RQ.mono (by k_asm) (by (first | with_reducible kcf_all | kcf_all))) | exact RQ.at (by k_asm) News.nil (by k_asm) (Or.inr (Or.inl ⟨rfl, rfl⟩)) | exact RQ.at (by k_asm) News.nil (by k_asm) (Or.inr (Or.inr ⟨rfl, rfl⟩)))); (case zzkd => (first | exact room_lt hdp (by rfl) | exact room_lt0 hdp | exact lt_ble (by rfl) | ktr_room)); (case zzku => (first | exact unit_lt hun (by rfl) | exact lt_ble (by rfl) | ktr_units)); (case zzhq => assumption)); intro D9 t9 u9 c9 h9 tk9 F9 N9 l9 r9; (try ((with_reducible rename Grown _ _ _ => gX); (have G9 := Grown.consN N9 gX l9 rfl); clear gX)); clear l9; (try k_sweep); (try dsimp only); (try k_fold))
  k_with "subscriptTail" => (k_here; (with_reducible show wpAny _ _ (subscriptTail _ _ (Value.ref _) (Value.int _ _)) _ _ _); k_dflt (refine' sub_S ?zzk1 ?zzk2 ?zzk3 ?zzk4 ?zzk5 ?_ ?zzk6; (case zzk1 => k_asm); (case zzk2 => assumption); (case zzk3 => omega); (case zzk4 => omega); (case zzk5 => omega); (case zzk6 => with_unfolding_all rfl)); intro b9 q9; (try dsimp only); (try k_fold))
  k_with "subscriptTail" => (k_here; (with_reducible show wpAny _ _ (subscriptTail _ _ (Value.ref _) (Value.int _ _)) _ _ _); k_dflt (refine' sub_L ?zzk1 ?zzk2 ?zzkA ?zzk3 ?zzk4 ?zzk5 ?_ ?zzk6; (case zzk1 => k_asm); (case zzk2 => (first | with_reducible kcf_m | kcf_m)); (case zzkA => refine AllR.mono (by k_asm) ?_; (first | with_reducible kcf_all | kcf_all)); (case zzk3 => omega); (case zzk4 => omega); (case zzk5 => omega); (case zzk6 => with_unfolding_all rfl)); intro b9 q9; (try dsimp only); (try k_fold))
  k_with "compareOp NotEq ref ref" => (k_here; k_dflt (refine' ne_Q ?zzk1 ?zzk2 ?zzku ?_; (case zzk1 => first | exact AQ.at (by k_asm) (by k_asm) | exact RQ.at (by k_asm) (by k_asm) (by k_asm) (by k_asm) | exact RQ.at (by k_asm) (by k_asm) (by k_asm) (RQ.mono (by k_asm) (by (first | with_reducible kcf_all | kcf_all))) | exact RQ.at (by k_asm) News.nil (by k_asm) (Or.inr (Or.inl ⟨rfl, rfl⟩)) | exact RQ.at (by k_asm) News.nil (by k_asm) (Or.inr (Or.inr ⟨rfl, rfl⟩))); (case zzk2 => first | exact AQ.at (by k_asm) (by k_asm) | exact RQ.at (by k_asm) (by k_asm) (by k_asm) (by k_asm) | exact RQ.at (by k_asm) (by k_asm) (by k_asm) (RQ.mono (by k_asm) (by (first | with_reducible kcf_all | kcf_all))) | exact RQ.at (by k_asm) News.nil (by k_asm) (Or.inr (Or.inl ⟨rfl, rfl⟩)) | exact RQ.at (by k_asm) News.nil (by k_asm) (Or.inr (Or.inr ⟨rfl, rfl⟩))); (case zzku => (first | exact unit_lt hun (by rfl) | exact lt_ble (by rfl) | ktr_units))); (first | rw [decide_eq_true (by k_asm)] | rw [decide_eq_false (by k_asm)]); (try dsimp only); (try k_fold))
  k_with "compareOp Eq ref ref" => (k_here; k_dflt (refine' eq_Q ?zzk1 ?zzk2 ?zzku ?_; (case zzk1 => first | exact AQ.at (by k_asm) (by k_asm) | exact RQ.at (by k_asm) (by k_asm) (by k_asm) (by k_asm) | exact RQ.at (by k_asm) (by k_asm) (by k_asm) (RQ.mono (by k_asm) (by (first | with_reducible kcf_all | kcf_all))) | exact RQ.at (by k_asm) News.nil (by k_asm) (Or.inr (Or.inl ⟨rfl, rfl⟩)) | exact RQ.at (by k_asm) News.nil (by k_asm) (Or.inr (Or.inr ⟨rfl, rfl⟩))); (case zzk2 => first | exact AQ.at (by k_asm) (by k_asm) | exact RQ.at (by k_asm) (by k_asm) (by k_asm) (by k_asm) | exact RQ.at (by k_asm) (by k_asm) (by k_asm) (RQ.mono (by k_asm) (by (first | with_reducible kcf_all | kcf_all))) | exact RQ.at (by k_asm) News.nil (by k_asm) (Or.inr (Or.inl ⟨rfl, rfl⟩)) | exact RQ.at (by k_asm) News.nil (by k_asm) (Or.inr (Or.inr ⟨rfl, rfl⟩))); (case zzku => (first | exact unit_lt hun (by rfl) | exact lt_ble (by rfl) | ktr_units))); (first | rw [decide_eq_true (by k_asm)] | rw [decide_eq_false (by k_asm)]); (try dsimp only); (try k_fold))
  k_with "newList" => (k_here; (with_reducible show wpAny _ _ (newList []) _ _ _); k_dflt (refine newList_R (by k_asm) (by k_asm) ?_); intro D9 h9 F9 N9 l9; (try k_sweep); (try dsimp only); (try k_fold))
  k_with "call builtin:list.append" => (k_here; k_dflt (refine' append_F ?zzk1 ?zzk2 ?zzk3 ?zzk4 ?_; (case zzk1 => k_asm); (case zzk2 => k_asm); (case zzk3 => (first | with_reducible kcf_m | kcf_m)); (case zzk4 => omega)); intro h9 F9 N9; (try k_sweep); (try dsimp only); (try k_fold))
  k_with "getMethod ref" => (k_here; (with_reducible show wpAny _ _ (getMethod (Value.ref _) (PySem.Str.ofString "append") _) _ _ _); k_dflt (refine' kl_method ?zzN ?zzm PySem.F.slot_list_append PySem.F.type_list_append ?_; (case zzN => k_asm); (case zzm => (first | with_reducible kcf_m | kcf_m))))
  k_with "call builtin:len" => (k_here; k_dflt (refine' len_S ?zzk1 ?zzk2 ?zzk3 ?_; (case zzk1 => k_asm); (case zzk2 => assumption); (case zzk3 => assumption)); (try dsimp only); (try k_fold))
  k_with "call ref" => (k_here; k_dflt (refine' con_use (q_let _ _ _ ?zzhq) ?zzk1 ?zzk2 ?zzk3 ?zzk4 ?zzk5 ?zzkK ?zzkp ?zzkd ?zzku ?_; (case zzk1 => k_asm); (case zzk2 => k_asm); (case zzk3 => k_asm); (case zzk4 => k_asm); (case zzk5 => k_asm); (case zzkK => first | exact rfl | assumption); (case zzkp => first | exact AQ.at (by k_asm) (by k_asm) | exact RQ.at (by k_asm) (by k_asm) (by k_asm) (by k_asm) | exact RQ.at (by k_asm) (by k_asm) (by k_asm) (RQ.mono (by k_asm) (by (first | with_reducible kcf_all | kcf_all))) | exact RQ.at (by k_asm) News.nil (by k_asm) (Or.inr (Or.inl ⟨rfl, rfl⟩)) | exact RQ.at (by k_asm) News.nil (by k_asm) (Or.inr (Or.inr ⟨rfl, rfl⟩))); (case zzkd => (first | exact room_lt hdp (by rfl) | exact room_lt0 hdp | exact lt_ble (by rfl) | ktr_room)); (case zzku => (first | exact unit_lt hun (by rfl) | exact lt_ble (by rfl) | ktr_units)); (case zzhq => assumption)); intro r9 h9 tk9 k9 F9 N9 e9; subst e9; clear k9; (try k_sweep); (try dsimp only); (try k_fold))
  have La := P.keeps keep0
  have R2 := twoR w X'
  clear P
  unfold sinvF at hq
  split at hq
  case isTrue => cases hq
  rename_i hz
  have hz0 : ¬ gt as 0 = (0, 1) := fun e => hz ⟨h0, e⟩
  clear hz
  (try dsimp only)
  (try (with_reducible show wpAny _ _ _ _ _ _))
  (try k_fold)
  repeat' (first | (k_unfold; (try dsimp only)) | ((fail_if_success (with_reducible show wpAny _ _ (pyIter (Value.ref _)) _ _ _)); first | walk1 | (dsimp only; walk1)))
  (rename Fr _ _ _ _ => lF'); (rename News _ _ _ _ => lN'); (rename IsRange _ _ _ _ _ _ _ _ => lR)
  with_unfolding_all refine' for_grow (x := Str.ofString "at") _ qs _ [Str.ofString "total", Str.ofString "spot"] (news := []) lR lF' lN' (by rfl) (by first | exact small_nat (by k_asm) | exact ⟨by decide, by decide, by omega, by omega⟩ | omega) (by first | exact nat_toNat0 _ | exact nat_toNat1 _ | exact congrArg Int.toNat (Int.sub_zero _).symm | exact congrArg Int.toNat (Int.add_sub_cancel _ _).symm | omega) hq (by (first | with_reducible kcf_m | kcf_m)) (fun _ h => nomatch h) (fun _ h => nomatch h) ?turn ?done
  · intro k' t' c c' vs n nt u h tk led hk0 hk1 hc hled hA hT hO hD hDn F1 N1
    clear lF' lN' lR hq hled
    (try dsimp only at hc)
    split at hc
    case isFalse => cases hc
    rename_i hlen
    have hvl := hA.1
    obtain ⟨tot, ht, hc⟩ := Option.bind_eq_some_iff.mp hc
    obtain ⟨x, hx, hc⟩ := Option.bind_eq_some_iff.mp hc
    obtain ⟨y, hy, hc⟩ := Option.map_eq_some_iff.mp hc
    subst hc
    have hxy := (letF_ok hy).1
    subst hxy
    by_cases hk0' : k' = 0
    · rw [if_pos hk0'] at ht
      (try dsimp only)
      (try (with_reducible show wpAny _ _ _ _ _ _))
      (try k_fold)
      repeat' (first | (k_unfold; (try dsimp only)) | ((fail_if_success (with_reducible show wpAny _ _ (pyIter (Value.ref _)) _ _ _)); first | walk1 | (dsimp only; walk1)))
      all_goals (try (exfalso; contradiction))
      (rename Fr _ _ _ _ => lF'); (rename News _ _ _ _ => lN'); (rename IsRange _ _ _ _ _ _ _ _ => lR)
      with_unfolding_all refine' for_one (x := Str.ofString "spot") _ tot (1, 1) (Str.ofString "total") [] lR lF' lN' (by rfl) (by first | exact small_nat (by k_asm) | exact ⟨by decide, by decide, by omega, by omega⟩ | omega) (by first | exact nat_toNat0 _ | exact nat_toNat1 _ | exact congrArg Int.toNat (Int.sub_zero _).symm | exact congrArg Int.toNat (Int.add_sub_cancel _ _).symm | omega) ht (Or.inr (Or.inr ⟨rfl, rfl⟩)) (by rfl) ?turn2 ?done2
      · intro k2 t2 c2 c2' v2 u2 st2 h2' tk2 led2 hk20 hk21 hc2 hled2 hR2 hT2 hO2 F2 N2
        clear lF' lN' lR ht
        have hm2 := hled2 _ List.mem_cons_self
        have hA2 := hA.mono (fun p hp => hled2 p (List.mem_cons_of_mem _ (List.mem_append_left _ hp)))
        clear hled2 F1 N1
        (try dsimp only at hc2)
        obtain ⟨w1, hw1, hc2⟩ := Option.bind_eq_some_iff.mp hc2
        have G2 := Grown.nil (base := st2 ++ led2)
        (try dsimp only)
        (try (with_reducible show wpAny _ _ _ _ _ _))
        (try k_fold)
        k_steps
        exact one_endG (by k_asm) rfl (by k_asm) (by k_asm) hT2 hO2 (RQ.mono (by k_asm) (by (first | with_reducible kcf_all | kcf_all))) rfl (by first | ktm_same2 | (intro z9 h91 h92; (simp only [List.contains_cons, List.contains_nil, Bool.or_false, Bool.or_eq_false_iff, beq_eq_false_iff_ne, ne_eq] at h91 h92 ⊢); simp [h91, h92]))
      · intro v2 u2 st2 h2' tk2 hR2 hT2 hO2 F2 N2
        clear lF' lN' lR ht F1 N1
        have G2 := Grown.app (Grown.nil (base := (_, listOf vs.toArray n) :: (nt ++ led))) hT2 hO2
        (try dsimp only)
        (try (with_reducible show wpAny _ _ _ _ _ _))
        (try k_fold)
        k_steps
        exact grow_endG (by k_asm) hA hT hO hD hDn (RQ.mono (by k_asm) (by (first | with_reducible kcf_all | kcf_all))) rfl (by k_asm) (by k_asm) (by first | ktm_same2 | (intro z9 h91 h92; (simp only [List.contains_cons, List.contains_nil, Bool.or_false, Bool.or_eq_false_iff, beq_eq_false_iff_ne, ne_eq] at h91 h92 ⊢); simp [h91, h92]))
    · rw [if_neg hk0'] at ht
      (try dsimp only)
      (try (with_reducible show wpAny _ _ _ _ _ _))
      (try k_fold)
      repeat' (first | (k_unfold; (try dsimp only)) | ((fail_if_success (with_reducible show wpAny _ _ (pyIter (Value.ref _)) _ _ _)); first | walk1 | (dsimp only; walk1)))
      all_goals (try (exfalso; contradiction))
      (rename Fr _ _ _ _ => lF'); (rename News _ _ _ _ => lN'); (rename IsRange _ _ _ _ _ _ _ _ => lR)
      with_unfolding_all refine' for_one (x := Str.ofString "spot") _ tot (0, 1) (Str.ofString "total") [] lR lF' lN' (by rfl) (by first | exact small_nat (by k_asm) | exact ⟨by decide, by decide, by omega, by omega⟩ | omega) (by first | exact nat_toNat0 _ | exact nat_toNat1 _ | exact congrArg Int.toNat (Int.sub_zero _).symm | exact congrArg Int.toNat (Int.add_sub_cancel _ _).symm | omega) ht (Or.inr (Or.inl ⟨rfl, rfl⟩)) (by rfl) ?turn3 ?done3
      · intro k2 t2 c2 c2' v2 u2 st2 h2' tk2 led2 hk20 hk21 hc2 hled2 hR2 hT2 hO2 F2 N2
        clear lF' lN' lR ht
        have hm2 := hled2 _ List.mem_cons_self
        have hA2 := hA.mono (fun p hp => hled2 p (List.mem_cons_of_mem _ (List.mem_append_left _ hp)))
        clear hled2 F1 N1
        (try dsimp only at hc2)
        obtain ⟨w1, hw1, hc2⟩ := Option.bind_eq_some_iff.mp hc2
        have G2 := Grown.nil (base := st2 ++ led2)
        (try dsimp only)
        (try (with_reducible show wpAny _ _ _ _ _ _))
        (try k_fold)
        k_steps
        exact one_endG (by k_asm) rfl (by k_asm) (by k_asm) hT2 hO2 (RQ.mono (by k_asm) (by (first | with_reducible kcf_all | kcf_all))) rfl (by first | ktm_same2 | (intro z9 h91 h92; (simp only [List.contains_cons, List.contains_nil, Bool.or_false, Bool.or_eq_false_iff, beq_eq_false_iff_ne, ne_eq] at h91 h92 ⊢); simp [h91, h92]))
      · intro v2 u2 st2 h2' tk2 hR2 hT2 hO2 F2 N2
        clear lF' lN' lR ht F1 N1
        have G2 := Grown.app (Grown.nil (base := (_, listOf vs.toArray n) :: (nt ++ led))) hT2 hO2
        (try dsimp only)
        (try (with_reducible show wpAny _ _ _ _ _ _))
        (try k_fold)
        k_steps
        exact grow_endG (by k_asm) hA hT hO hD hDn (RQ.mono (by k_asm) (by (first | with_reducible kcf_all | kcf_all))) rfl (by k_asm) (by k_asm) (by first | ktm_same2 | (intro z9 h91 h92; (simp only [List.contains_cons, List.contains_nil, Bool.or_false, Bool.or_eq_false_iff, beq_eq_false_iff_ne, ne_eq] at h91 h92 ⊢); simp [h91, h92]))
  · intro vs n nt u h tk hA hT F1 N1
    clear lF' lN' lR hq
    (try dsimp only)
    (try (with_reducible show wpAny _ _ _ _ _ _))
    (try k_fold)
    k_steps
    exact conEndS keep0 rfl (by k_asm) (by k_asm) List.mem_cons_self (fun p hp => List.mem_cons_of_mem _ (List.mem_append_left _ hp)) hA hT

end

section
theorem begF_ok {as : List Q2} {q : Q2} (h0 : 0 < as.length) (h : begF as q = true) : okN (gt as 0).1 = true ∧ okN q.1 = true ∧ (gt as 0).1 * q.2 - q.1 * (gt as 0).2 = 0 := by
  unfold begF at h
  simp only [Bool.or_eq_true, Bool.and_eq_true, beq_iff_eq] at h
  rcases h with h | ⟨⟨h1, h2⟩, h3⟩
  · omega
  · exact ⟨h1, h2, h3⟩
section

theorem con_begin {a b : Addr} {as : List Q2} {q : Q2} (hb : begF as q = true) (h0 : 0 < as.length) (h3 : as.length < 64) :
    Con 149 10 [.ref a, .ref b] (fun h => SQ h a as ∧ AQ h b q) (fun _ _ r => r = .none) := by
  unfold Con
  k_fill
  intro w mean mg mb dp un gd cn cs aa ccd cl outer A₀ base h₀ L m s Q E B F X T hk P hdp hun ret
  refine wpAny_call ?_
  k_dflt (refine' code_con [(Str.ofString "a", .ref a), (Str.ofString "number", .ref b)] ?k1 ?k2 ?k3 ?k5 ?kA ?kF ?kK ?k6 ?k7 ?k8 ?k9 ?kB ret ?_ ?c2 ?c3 ?c4 ?c5; (case kA => exact rfl); (case kF => exact rfl); (case kK => assumption); (case k1 => k_asm); (case k2 => k_asm); (case k3 => k_asm); (case k5 => k_asm); (case k6 => k_is); (case k7 => k_is); (case k8 => (first | exact room_lt hdp (by rfl) | exact room_lt0 hdp | exact lt_ble (by rfl) | ktr_room)); (case k9 => exact BindsTo.of_eq rfl); (case c5 => decide); (case kB => exact locs rfl); (case c2 => exact rfl); (case c3 => exact rfl); (case c4 => exact rfl); k_whole; intro g' L' h' tk0 F' N' B' X' T' keep0; (try dsimp only))
  clear ret B F T
  (try simp only [List.reverse_cons, List.reverse_nil, List.nil_append, List.cons_append, kstB] at F')
  k_with_none
  k_with "subscriptTail" => (k_here; (with_reducible show wpAny _ _ (subscriptTail _ _ (Value.ref _) (Value.int _ _)) _ _ _); k_dflt (refine' sub_S ?zzk1 ?zzk2 ?zzk3 ?zzk4 ?zzk5 ?_ ?zzk6; (case zzk1 => k_asm); (case zzk2 => assumption); (case zzk3 => omega); (case zzk4 => omega); (case zzk5 => omega); (case zzk6 => with_unfolding_all rfl)); intro b9 q9; (try dsimp only); (try k_fold))
  k_with "call builtin:len" => (k_here; k_dflt (refine' len_S ?zzk1 ?zzk2 ?zzk3 ?_; (case zzk1 => k_asm); (case zzk2 => assumption); (case zzk3 => assumption)); (try dsimp only); (try k_fold))
  k_with "call ref" => (k_here; k_dflt (refine' con_use (q_rcmp _ _ _ _ ?zzhq ?zzhr ?zzhs) ?zzk1 ?zzk2 ?zzk3 ?zzk4 ?zzk5 ?zzkK ?zzkp ?zzkd ?zzku ?_; (case zzk1 => k_asm); (case zzk2 => k_asm); (case zzk3 => k_asm); (case zzk4 => k_asm); (case zzk5 => k_asm); (case zzkK => first | exact rfl | assumption); (case zzkp => refine ⟨?_, ?_⟩ <;> (first | exact AQ.at (by k_asm) (by k_asm) | exact RQ.at (by k_asm) (by k_asm) (by k_asm) (by k_asm) | exact RQ.at (by k_asm) (by k_asm) (by k_asm) (RQ.mono (by k_asm) (by (first | with_reducible kcf_all | kcf_all))) | exact RQ.at (by k_asm) News.nil (by k_asm) (Or.inr (Or.inl ⟨rfl, rfl⟩)) | exact RQ.at (by k_asm) News.nil (by k_asm) (Or.inr (Or.inr ⟨rfl, rfl⟩)))); (case zzkd => (first | exact room_lt hdp (by rfl) | exact room_lt0 hdp | exact lt_ble (by rfl) | ktr_room)); (case zzku => (first | exact unit_lt hun (by rfl) | exact lt_ble (by rfl) | ktr_units)); (case zzhq => assumption); (case zzhr => assumption); (case zzhs => assumption)); intro r9 h9 tk9 k9 F9 N9 e9; obtain ⟨t9, e9⟩ := e9; subst e9; clear k9; (try k_sweep); (try dsimp only); (try k_fold))
  have La := P.1.keeps keep0
  have Lb := P.2.keeps keep0
  have R2 := twoR w X'
  clear P
  obtain ⟨hb1, hb2, hb3⟩ := begF_ok h0 hb
  (try dsimp only)
  (try (with_reducible show wpAny _ _ _ _ _ _))
  (try k_fold)
  k_steps
  all_goals first
    | exact conEndN rfl (by k_asm) (by k_asm) rfl
    | w_report
end

theorem con_sexp (a : Addr) (as qs : List Q2) (hq : sexpF as = some qs) (h0 : 0 < as.length) (h3 : as.length < 64) :
    Con 156 40 [.ref a] (fun h => SQ h a as) (OutS qs) := by
  unfold Con
  k_fill
  intro w mean mg mb dp un gd cn cs aa ccd cl outer A₀ base h₀ L m s Q E B F X T hk P hdp hun ret
  refine wpAny_call ?_
  k_dflt (refine' code_con [(Str.ofString "a", .ref a)] ?k1 ?k2 ?k3 ?k5 ?kA ?kF ?kK ?k6 ?k7 ?k8 ?k9 ?kB ret ?_ ?c2 ?c3 ?c4 ?c5; (case kA => exact rfl); (case kF => exact rfl); (case kK => assumption); (case k1 => k_asm); (case k2 => k_asm); (case k3 => k_asm); (case k5 => k_asm); (case k6 => k_is); (case k7 => k_is); (case k8 => (first | exact room_lt hdp (by rfl) | exact room_lt0 hdp | exact lt_ble (by rfl) | ktr_room)); (case k9 => exact BindsTo.of_eq rfl); (case c5 => decide); (case kB => exact locs rfl); (case c2 => exact rfl); (case c3 => exact rfl); (case c4 => exact rfl); k_whole; intro g' L' h' tk0 F' N' B' X' T' keep0; (try dsimp only))
  clear ret B F T
  (try simp only [List.reverse_cons, List.reverse_nil, List.nil_append, List.cons_append, kstB] at F')
  k_with_none
  k_with "call ref" => (k_here; k_dflt (refine' con_useR (q_radd _ _ _ _ _ ?zzhq) ?zzk1 ?zzk2 ?zzk3 ?zzk4 ?zzk5 ?zzkK ?zzkp ?zzkd ?zzku ?_; (case zzk1 => k_asm); (case zzk2 => k_asm); (case zzk3 => k_asm); (case zzk4 => k_asm); (case zzk5 => k_asm); (case zzkK => first | exact rfl | assumption); (case zzkp => refine ⟨?_, ?_⟩ <;> (first | exact AQ.at (by k_asm) (by k_asm) | exact RQ.at (by k_asm) (by k_asm) (by k_asm) (by k_asm) | exact RQ.at (by k_asm) (by k_asm) (by k_asm) (RQ.mono (by k_asm) (by (first | with_reducible kcf_all | kcf_all))) | exact RQ.at (by k_asm) News.nil (by k_asm) (Or.inr (Or.inl ⟨rfl, rfl⟩)) | exact RQ.at (by k_asm) News.nil (by k_asm) (Or.inr (Or.inr ⟨rfl, rfl⟩)))); (case zzkd => (first | exact room_lt hdp (by rfl) | exact room_lt0 hdp | exact lt_ble (by rfl) | ktr_room)); (case zzku => (first | exact unit_lt hun (by rfl) | exact lt_ble (by rfl) | ktr_units)); (case zzhq => assumption)); intro D9 t9 u9 c9 h9 tk9 F9 N9 l9 r9; (try ((with_reducible rename Grown _ _ _ => gX); (have G9 := Grown.consN N9 gX l9 rfl); clear gX)); clear l9; (try k_sweep); (try dsimp only); (try k_fold))
  k_with "call ref" => (k_here; k_dflt (refine' con_useR (q_rsub _ _ _ _ _ ?zzhq) ?zzk1 ?zzk2 ?zzk3 ?zzk4 ?zzk5 ?zzkK ?zzkp ?zzkd ?zzku ?_; (case zzk1 => k_asm); (case zzk2 => k_asm); (case zzk3 => k_asm); (case zzk4 => k_asm); (case zzk5 => k_asm); (case zzkK => first | exact rfl | assumption); (case zzkp => refine ⟨?_, ?_⟩ <;> (first | exact AQ.at (by k_asm) (by k_asm) | exact RQ.at (by k_asm) (by k_asm) (by k_asm) (by k_asm) | exact RQ.at (by k_asm) (by k_asm) (by k_asm) (RQ.mono (by k_asm) (by (first | with_reducible kcf_all | kcf_all))) | exact RQ.at (by k_asm) News.nil (by k_asm) (Or.inr (Or.inl ⟨rfl, rfl⟩)) | exact RQ.at (by k_asm) News.nil (by k_asm) (Or.inr (Or.inr ⟨rfl, rfl⟩)))); (case zzkd => (first | exact room_lt hdp (by rfl) | exact room_lt0 hdp | exact lt_ble (by rfl) | ktr_room)); (case zzku => (first | exact unit_lt hun (by rfl) | exact lt_ble (by rfl) | ktr_units)); (case zzhq => assumption)); intro D9 t9 u9 c9 h9 tk9 F9 N9 l9 r9; (try ((with_reducible rename Grown _ _ _ => gX); (have G9 := Grown.consN N9 gX l9 rfl); clear gX)); clear l9; (try k_sweep); (try dsimp only); (try k_fold))
  k_with "call ref" => (k_here; k_dflt (refine' con_useR (q_rmul _ _ _ _ _ ?zzhq) ?zzk1 ?zzk2 ?zzk3 ?zzk4 ?zzk5 ?zzkK ?zzkp ?zzkd ?zzku ?_; (case zzk1 => k_asm); (case zzk2 => k_asm); (case zzk3 => k_asm); (case zzk4 => k_asm); (case zzk5 => k_asm); (case zzkK => first | exact rfl | assumption); (case zzkp => refine ⟨?_, ?_⟩ <;> (first | exact AQ.at (by k_asm) (by k_asm) | exact RQ.at (by k_asm) (by k_asm) (by k_asm) (by k_asm) | exact RQ.at (by k_asm) (by k_asm) (by k_asm) (RQ.mono (by k_asm) (by (first | with_reducible kcf_all | kcf_all))) | exact RQ.at (by k_asm) News.nil (by k_asm) (Or.inr (Or.inl ⟨rfl, rfl⟩)) | exact RQ.at (by k_asm) News.nil (by k_asm) (Or.inr (Or.inr ⟨rfl, rfl⟩)))); (case zzkd => (first | exact room_lt hdp (by rfl) | exact room_lt0 hdp | exact lt_ble (by rfl) | ktr_room)); (case zzku => (first | exact unit_lt hun (by rfl) | exact lt_ble (by rfl) | ktr_units)); (case zzhq => assumption)); intro D9 t9 u9 c9 h9 tk9 F9 N9 l9 r9; (try ((with_reducible rename Grown _ _ _ => gX); (have G9 := Grown.consN N9 gX l9 rfl); clear gX)); clear l9; (try k_sweep); (try dsimp only); (try k_fold))
  k_with "call ref" => (k_here; k_dflt (refine' con_useR (q_rdiv _ _ _ _ _ ?zzhq) ?zzk1 ?zzk2 ?zzk3 ?zzk4 ?zzk5 ?zzkK ?zzkp ?zzkd ?zzku ?_; (case zzk1 => k_asm); (case zzk2 => k_asm); (case zzk3 => k_asm); (case zzk4 => k_asm); (case zzk5 => k_asm); (case zzkK => first | exact rfl | assumption); (case zzkp => refine ⟨?_, ?_⟩ <;> (first | exact AQ.at (by k_asm) (by k_asm) | exact RQ.at (by k_asm) (by k_asm) (by k_asm) (by k_asm) | exact RQ.at (by k_asm) (by k_asm) (by k_asm) (RQ.mono (by k_asm) (by (first | with_reducible kcf_all | kcf_all))) | exact RQ.at (by k_asm) News.nil (by k_asm) (Or.inr (Or.inl ⟨rfl, rfl⟩)) | exact RQ.at (by k_asm) News.nil (by k_asm) (Or.inr (Or.inr ⟨rfl, rfl⟩)))); (case zzkd => (first | exact room_lt hdp (by rfl) | exact room_lt0 hdp | exact lt_ble (by rfl) | ktr_room)); (case zzku => (first | exact unit_lt hun (by rfl) | exact lt_ble (by rfl) | ktr_units)); (case zzhq => assumption)); intro D9 t9 u9 c9 h9 tk9 F9 N9 l9 r9; (try ((with_reducible rename Grown _ _ _ => gX); (have G9 := Grown.consN N9 gX l9 rfl); clear gX)); clear l9; (try k_sweep); (try dsimp only); (try k_fold))
  k_with "newTuple" => (k_here; (with_reducible show wpAny _ _ (newTuple [Value.int _ _, Value.int _ _]) _ _ _); k_dflt (refine newTuple_R (by k_asm) (by k_asm) ?_); intro D9 c9 h9 F9 N9 l9 r9; (try ((with_reducible rename Grown _ _ _ => gX); (have G9 := Grown.consN N9 gX l9 rfl); clear gX)); clear l9; (try k_sweep); (try dsimp only); (try k_fold))
  k_with "subscriptTail" => (k_here; (with_reducible show wpAny _ _ (subscriptTail _ _ (Value.ref _) (Value.int _ _)) _ _ _); k_dflt (refine' sub_S ?zzk1 ?zzk2 ?zzk3 ?zzk4 ?zzk5 ?_ ?zzk6; (case zzk1 => k_asm); (case zzk2 => assumption); (case zzk3 => omega); (case zzk4 => omega); (case zzk5 => omega); (case zzk6 => with_unfolding_all rfl)); intro b9 q9; (try dsimp only); (try k_fold))
  k_with "subscriptTail" => (k_here; (with_reducible show wpAny _ _ (subscriptTail _ _ (Value.ref _) (Value.int _ _)) _ _ _); k_dflt (refine' sub_L ?zzk1 ?zzk2 ?zzkA ?zzk3 ?zzk4 ?zzk5 ?_ ?zzk6; (case zzk1 => k_asm); (case zzk2 => (first | with_reducible kcf_m | kcf_m)); (case zzkA => refine AllR.mono (by k_asm) ?_; (first | with_reducible kcf_all | kcf_all)); (case zzk3 => omega); (case zzk4 => omega); (case zzk5 => omega); (case zzk6 => with_unfolding_all rfl)); intro b9 q9; (try dsimp only); (try k_fold))
  k_with "compareOp NotEq ref ref" => (k_here; k_dflt (refine' ne_Q ?zzk1 ?zzk2 ?zzku ?_; (case zzk1 => first | exact AQ.at (by k_asm) (by k_asm) | exact RQ.at (by k_asm) (by k_asm) (by k_asm) (by k_asm) | exact RQ.at (by k_asm) (by k_asm) (by k_asm) (RQ.mono (by k_asm) (by (first | with_reducible kcf_all | kcf_all))) | exact RQ.at (by k_asm) News.nil (by k_asm) (Or.inr (Or.inl ⟨rfl, rfl⟩)) | exact RQ.at (by k_asm) News.nil (by k_asm) (Or.inr (Or.inr ⟨rfl, rfl⟩))); (case zzk2 => first | exact AQ.at (by k_asm) (by k_asm) | exact RQ.at (by k_asm) (by k_asm) (by k_asm) (by k_asm) | exact RQ.at (by k_asm) (by k_asm) (by k_asm) (RQ.mono (by k_asm) (by (first | with_reducible kcf_all | kcf_all))) | exact RQ.at (by k_asm) News.nil (by k_asm) (Or.inr (Or.inl ⟨rfl, rfl⟩)) | exact RQ.at (by k_asm) News.nil (by k_asm) (Or.inr (Or.inr ⟨rfl, rfl⟩))); (case zzku => (first | exact unit_lt hun (by rfl) | exact lt_ble (by rfl) | ktr_units))); (first | rw [decide_eq_true (by k_asm)] | rw [decide_eq_false (by k_asm)]); (try dsimp only); (try k_fold))
  k_with "compareOp Eq ref ref" => (k_here; k_dflt (refine' eq_Q ?zzk1 ?zzk2 ?zzku ?_; (case zzk1 => first | exact AQ.at (by k_asm) (by k_asm) | exact RQ.at (by k_asm) (by k_asm) (by k_asm) (by k_asm) | exact RQ.at (by k_asm) (by k_asm) (by k_asm) (RQ.mono (by k_asm) (by (first | with_reducible kcf_all | kcf_all))) | exact RQ.at (by k_asm) News.nil (by k_asm) (Or.inr (Or.inl ⟨rfl, rfl⟩)) | exact RQ.at (by k_asm) News.nil (by k_asm) (Or.inr (Or.inr ⟨rfl, rfl⟩))); (case zzk2 => first | exact AQ.at (by k_asm) (by k_asm) | exact RQ.at (by k_asm) (by k_asm) (by k_asm) (by k_asm) | exact RQ.at (by k_asm) (by k_asm) (by k_asm) (RQ.mono (by k_asm) (by (first | with_reducible kcf_all | kcf_all))) | exact RQ.at (by k_asm) News.nil (by k_asm) (Or.inr (Or.inl ⟨rfl, rfl⟩)) | exact RQ.at (by k_asm) News.nil (by k_asm) (Or.inr (Or.inr ⟨rfl, rfl⟩))); (case zzku => (first | exact unit_lt hun (by rfl) | exact lt_ble (by rfl) | ktr_units))); (first | rw [decide_eq_true (by k_asm)] | rw [decide_eq_false (by k_asm)]); (try dsimp only); (try k_fold))
  k_with "newList" => (k_here; (with_reducible show wpAny _ _ (newList []) _ _ _); k_dflt (refine newList_R (by k_asm) (by k_asm) ?_); intro D9 h9 F9 N9 l9; (try k_sweep); (try dsimp only); (try k_fold))
  k_with "call builtin:list.append" => (k_here; k_dflt (refine' append_F ?zzk1 ?zzk2 ?zzk3 ?zzk4 ?_; (case zzk1 => k_asm); (case zzk2 => k_asm); (case zzk3 => (first | with_reducible kcf_m | kcf_m)); (case zzk4 => omega)); intro h9 F9 N9; (try k_sweep); (try dsimp only); (try k_fold))
  k_with "getMethod ref" => (k_here; (with_reducible show wpAny _ _ (getMethod (Value.ref _) (PySem.Str.ofString "append") _) _ _ _); k_dflt (refine' kl_method ?zzN ?zzm PySem.F.slot_list_append PySem.F.type_list_append ?_; (case zzN => k_asm); (case zzm => (first | with_reducible kcf_m | kcf_m))))
  k_with "call builtin:len" => (k_here; k_dflt (refine' len_S ?zzk1 ?zzk2 ?zzk3 ?_; (case zzk1 => k_asm); (case zzk2 => assumption); (case zzk3 => assumption)); (try dsimp only); (try k_fold))
  k_with "call ref" => (k_here; k_dflt (refine' con_use (q_let _ _ _ ?zzhq) ?zzk1 ?zzk2 ?zzk3 ?zzk4 ?zzk5 ?zzkK ?zzkp ?zzkd ?zzku ?_; (case zzk1 => k_asm); (case zzk2 => k_asm); (case zzk3 => k_asm); (case zzk4 => k_asm); (case zzk5 => k_asm); (case zzkK => first | exact rfl | assumption); (case zzkp => first | exact AQ.at (by k_asm) (by k_asm) | exact RQ.at (by k_asm) (by k_asm) (by k_asm) (by k_asm) | exact RQ.at (by k_asm) (by k_asm) (by k_asm) (RQ.mono (by k_asm) (by (first | with_reducible kcf_all | kcf_all))) | exact RQ.at (by k_asm) News.nil (by k_asm) (Or.inr (Or.inl ⟨rfl, rfl⟩)) | exact RQ.at (by k_asm) News.nil (by k_asm) (Or.inr (Or.inr ⟨rfl, rfl⟩))); (case zzkd => (first | exact room_lt hdp (by rfl) | exact room_lt0 hdp | exact lt_ble (by rfl) | ktr_room)); (case zzku => (first | exact unit_lt hun (by rfl) | exact lt_ble (by rfl) | ktr_units)); (case zzhq => assumption)); intro r9 h9 tk9 k9 F9 N9 e9; subst e9; clear k9; (try k_sweep); (try dsimp only); (try k_fold))
  k_with "call ref" => (k_here; k_dflt (refine' con_use (con_begin ?zzhq ?zzhr ?zzhs) ?zzk1 ?zzk2 ?zzk3 ?zzk4 ?zzk5 ?zzkK ?zzkp ?zzkd ?zzku ?_; (case zzk1 => k_asm); (case zzk2 => k_asm); (case zzk3 => k_asm); (case zzk4 => k_asm); (case zzk5 => k_asm); (case zzkK => first | exact rfl | assumption); (case zzkp => refine ⟨SQ.keeps (by k_asm) (Fr.keep (by k_asm)), ?_⟩; first | exact AQ.at (by k_asm) (by k_asm) | exact RQ.at (by k_asm) (by k_asm) (by k_asm) (by k_asm) | exact RQ.at (by k_asm) (by k_asm) (by k_asm) (RQ.mono (by k_asm) (by (first | with_reducible kcf_all | kcf_all))) | exact RQ.at (by k_asm) News.nil (by k_asm) (Or.inr (Or.inl ⟨rfl, rfl⟩)) | exact RQ.at (by k_asm) News.nil (by k_asm) (Or.inr (Or.inr ⟨rfl, rfl⟩))); (case zzkd => (first | exact room_lt hdp (by rfl) | exact room_lt0 hdp | exact lt_ble (by rfl) | ktr_room)); (case zzku => (first | exact unit_lt hun (by rfl) | exact lt_ble (by rfl) | ktr_units)); (case zzhq => assumption); (case zzhr => assumption); (case zzhs => assumption)); intro r9 h9 tk9 k9 F9 N9 e9; subst e9; clear k9; (try k_sweep); (try dsimp only); (try k_fold))
  have La := P.keeps keep0
  have R2 := twoR w X'
  clear P
  unfold sexpF at hq
  split at hq
  case isTrue => cases hq
  rename_i hbF
  have hbeg : begF as (0, 1) = true := by simpa using hbF
  clear hbF
  (try dsimp only)
  (try (with_reducible show wpAny _ _ _ _ _ _))
  (try k_fold)
  repeat' (first | (k_unfold; (try dsimp only)) | ((fail_if_success (with_reducible show wpAny _ _ (pyIter (Value.ref _)) _ _ _)); first | walk1 | (dsimp only; walk1)))
  (rename Fr _ _ _ _ => lF'); (rename News _ _ _ _ => lN'); (rename IsRange _ _ _ _ _ _ _ _ => lR)
  with_unfolding_all refine' for_grow (x := Str.ofString "at") _ qs _ [Str.ofString "total", Str.ofString "spot"] (news := []) lR lF' lN' (by rfl) (by first | exact small_nat (by k_asm) | exact ⟨by decide, by decide, by omega, by omega⟩ | omega) (by first | exact nat_toNat0 _ | exact nat_toNat1 _ | exact congrArg Int.toNat (Int.sub_zero _).symm | exact congrArg Int.toNat (Int.add_sub_cancel _ _).symm | omega) hq (by (first | with_reducible kcf_m | kcf_m)) (fun _ h => nomatch h) (fun _ h => nomatch h) ?turn ?done
  · intro k' t' c c' vs n nt u h tk led hk0 hk1 hc hled hA hT hO hD hDn F1 N1
    clear lF' lN' lR hq hled
    (try dsimp only at hc)
    split at hc
    case isFalse => cases hc
    rename_i hlen
    have hvl := hA.1
    obtain ⟨tot, ht, hc⟩ := Option.bind_eq_some_iff.mp hc
    (try dsimp only)
    (try (with_reducible show wpAny _ _ _ _ _ _))
    (try k_fold)
    repeat' (first | (k_unfold; (try dsimp only)) | ((fail_if_success (with_reducible show wpAny _ _ (pyIter (Value.ref _)) _ _ _)); first | walk1 | (dsimp only; walk1)))
    (rename Fr _ _ _ _ => lF'); (rename News _ _ _ _ => lN'); (rename IsRange _ _ _ _ _ _ _ _ => lR)
    with_unfolding_all refine' for_one (x := Str.ofString "spot") _ tot (0, 1) (Str.ofString "total") [] lR lF' lN' (by rfl) (by first | exact small_nat (by k_asm) | exact ⟨by decide, by decide, by omega, by omega⟩ | omega) (by first | exact nat_toNat0 _ | exact nat_toNat1 _ | exact congrArg Int.toNat (Int.sub_zero _).symm | exact congrArg Int.toNat (Int.add_sub_cancel _ _).symm | omega) ht (Or.inr (Or.inl ⟨rfl, rfl⟩)) (by rfl) ?turn4 ?done4
    · intro k2 t2 c2 c2' v2 u2 st2 h2' tk2 led2 hk20 hk21 hc2 hled2 hR2 hT2 hO2 F2 N2
      clear lF' lN' lR ht
      have hm2 := hled2 _ List.mem_cons_self
      have hA2 := hA.mono (fun p hp => hled2 p (List.mem_cons_of_mem _ (List.mem_append_left _ hp)))
      clear hled2 F1 N1
      (try dsimp only at hc2)
      obtain ⟨w1, hw1, hc2⟩ := Option.bind_eq_some_iff.mp hc2
      obtain ⟨w2, hw2, hc2⟩ := Option.bind_eq_some_iff.mp hc2
      have G2 := Grown.nil (base := st2 ++ led2)
      (try dsimp only)
      (try (with_reducible show wpAny _ _ _ _ _ _))
      (try k_fold)
      k_steps
      exact one_endG (by k_asm) rfl (by k_asm) (by k_asm) hT2 hO2 (RQ.mono (by k_asm) (by (first | with_reducible kcf_all | kcf_all))) rfl (by first | ktm_same2 | (intro z9 h91 h92; (simp only [List.contains_cons, List.contains_nil, Bool.or_false, Bool.or_eq_false_iff, beq_eq_false_iff_ne, ne_eq] at h91 h92 ⊢); simp [h91, h92]))
    · intro v2 u2 st2 h2' tk2 hR2 hT2 hO2 F2 N2
      clear lF' lN' lR ht F1 N1
      have G2 := Grown.app (Grown.nil (base := (_, listOf vs.toArray n) :: (nt ++ led))) hT2 hO2
      (try dsimp only)
      by_cases hk0' : k' = 0
      · rw [if_pos hk0'] at hc
        cases hc
        (try dsimp only)
        (try (with_reducible show wpAny _ _ _ _ _ _))
        (try k_fold)
        k_steps
        all_goals first
          | contradiction
          | exact grow_endG (by k_asm) hA hT hO hD hDn (Or.inr (Or.inr ⟨rfl, rfl⟩)) rfl (by k_asm) (by k_asm) (by first | ktm_same2 | (intro z9 h91 h92; (simp only [List.contains_cons, List.contains_nil, Bool.or_false, Bool.or_eq_false_iff, beq_eq_false_iff_ne, ne_eq] at h91 h92 ⊢); simp [h91, h92]))
      · rw [if_neg hk0'] at hc
        obtain ⟨x, hx, hc⟩ := Option.bind_eq_some_iff.mp hc
        obtain ⟨y, hy, hc⟩ := Option.map_eq_some_iff.mp hc
        subst hc
        have hxy := (letF_ok hy).1
        subst hxy
        (try dsimp only)
        (try (with_reducible show wpAny _ _ _ _ _ _))
        (try k_fold)
        k_steps
        all_goals first
          | contradiction
          | exact grow_endG (by k_asm) hA hT hO hD hDn (RQ.mono (by k_asm) (by (first | with_reducible kcf_all | kcf_all))) rfl (by k_asm) (by k_asm) (by first | ktm_same2 | (intro z9 h91 h92; (simp only [List.contains_cons, List.contains_nil, Bool.or_false, Bool.or_eq_false_iff, beq_eq_false_iff_ne, ne_eq] at h91 h92 ⊢); simp [h91, h92]))
  · intro vs n nt u h tk hA hT F1 N1
    clear lF' lN' lR hq
    (try dsimp only)
    (try (with_reducible show wpAny _ _ _ _ _ _))
    (try k_fold)
    k_steps
    exact conEndS keep0 rfl (by k_asm) (by k_asm) List.mem_cons_self (fun p hp => List.mem_cons_of_mem _ (List.mem_append_left _ hp)) hA hT

end

section

theorem con_spow (a : Addr) (b : Addr) (r : Q2) (as qs : List Q2) (hq : spowF as r = some qs) (h0 : 0 < as.length) (h3 : as.length < 64) :
    Con 170 40 [.ref a, .ref b] (fun h => SQ h a as ∧ AQ h b r) (OutS qs) := by
  unfold Con
  k_fill
  intro w mean mg mb dp un gd cn cs aa ccd cl outer A₀ base h₀ L m s Q E B F X T hk P hdp hun ret
  refine wpAny_call ?_
  k_dflt (refine' code_con [(Str.ofString "a", .ref a), (Str.ofString "number", .ref b)] ?k1 ?k2 ?k3 ?k5 ?kA ?kF ?kK ?k6 ?k7 ?k8 ?k9 ?kB ret ?_ ?c2 ?c3 ?c4 ?c5; (case kA => exact rfl); (case kF => exact rfl); (case kK => assumption); (case k1 => k_asm); (case k2 => k_asm); (case k3 => k_asm); (case k5 => k_asm); (case k6 => k_is); (case k7 => k_is); (case k8 => (first | exact room_lt hdp (by rfl) | exact room_lt0 hdp | exact lt_ble (by rfl) | ktr_room)); (case k9 => exact BindsTo.of_eq rfl); (case c5 => decide); (case kB => exact locs rfl); (case c2 => exact rfl); (case c3 => exact rfl); (case c4 => exact rfl); k_whole; intro g' L' h' tk0 F' N' B' X' T' keep0; (try dsimp only))
  clear ret B F T
  (try simp only [List.reverse_cons, List.reverse_nil, List.nil_append, List.cons_append, kstB] at F')
  k_with_none
  k_with "call ref" => (k_here; k_dflt (refine' con_useR (q_radd _ _ _ _ _ ?zzhq) ?zzk1 ?zzk2 ?zzk3 ?zzk4 ?zzk5 ?zzkK ?zzkp ?zzkd ?zzku ?_; (case zzk1 => k_asm); (case zzk2 => k_asm); (case zzk3 => k_asm); (case zzk4 => k_asm); (case zzk5 => k_asm); (case zzkK => first | exact rfl | assumption); (case zzkp => refine ⟨?_, ?_⟩ <;> (first | exact AQ.at (by k_asm) (by k_asm) | exact RQ.at (by k_asm) (by k_asm) (by k_asm) (by k_asm) | exact RQ.at (by k_asm) (by k_asm) (by k_asm) (RQ.mono (by k_asm) (by (first | with_reducible kcf_all | kcf_all))) | exact RQ.at (by k_asm) News.nil (by k_asm) (Or.inr (Or.inl ⟨rfl, rfl⟩)) | exact RQ.at (by k_asm) News.nil (by k_asm) (Or.inr (Or.inr ⟨rfl, rfl⟩)))); (case zzkd => (first | exact room_lt hdp (by rfl) | exact room_lt0 hdp | exact lt_ble (by rfl) | ktr_room)); (case zzku => (first | exact unit_lt hun (by rfl) | exact lt_ble (by rfl) | ktr_units)); (case zzhq => assumption)); intro D9 t9 u9 c9 h9 tk9 F9 N9 l9 r9; (try ((with_reducible rename Grown _ _ _ => gX); (have G9 := Grown.consN N9 gX l9 rfl); clear gX)); clear l9; (try k_sweep); (try dsimp only); (try k_fold))
  k_with "call ref" => (k_here; k_dflt (refine' con_useR (q_rsub _ _ _ _ _ ?zzhq) ?zzk1 ?zzk2 ?zzk3 ?zzk4 ?zzk5 ?zzkK ?zzkp ?zzkd ?zzku ?_; (case zzk1 => k_asm); (case zzk2 => k_asm); (case zzk3 => k_asm); (case zzk4 => k_asm); (case zzk5 => k_asm); (case zzkK => first | exact rfl | assumption); (case zzkp => refine ⟨?_, ?_⟩ <;> (first | exact AQ.at (by k_asm) (by k_asm) | exact RQ.at (by k_asm) (by k_asm) (by k_asm) (by k_asm) | exact RQ.at (by k_asm) (by k_asm) (by k_asm) (RQ.mono (by k_asm) (by (first | with_reducible kcf_all | kcf_all))) | exact RQ.at (by k_asm) News.nil (by k_asm) (Or.inr (Or.inl ⟨rfl, rfl⟩)) | exact RQ.at (by k_asm) News.nil (by k_asm) (Or.inr (Or.inr ⟨rfl, rfl⟩)))); (case zzkd => (first | exact room_lt hdp (by rfl) | exact room_lt0 hdp | exact lt_ble (by rfl) | ktr_room)); (case zzku => (first | exact unit_lt hun (by rfl) | exact lt_ble (by rfl) | ktr_units)); (case zzhq => assumption)); intro D9 t9 u9 c9 h9 tk9 F9 N9 l9 r9; (try ((with_reducible rename Grown _ _ _ => gX); (have G9 := Grown.consN N9 gX l9 rfl); clear gX)); clear l9; (try k_sweep); (try dsimp only); (try k_fold))
  k_with "call ref" => (k_here; k_dflt (refine' con_useR (q_rmul _ _ _ _ _ ?zzhq) ?zzk1 ?zzk2 ?zzk3 ?zzk4 ?zzk5 ?zzkK ?zzkp ?zzkd ?zzku ?_; (case zzk1 => k_asm); (case zzk2 => k_asm); (case zzk3 => k_asm); (case zzk4 => k_asm); (case zzk5 => k_asm); (case zzkK => first | exact rfl | assumption); (case zzkp => refine ⟨?_, ?_⟩ <;> (first | exact AQ.at (by k_asm) (by k_asm) | exact RQ.at (by k_asm) (by k_asm) (by k_asm) (by k_asm) | exact RQ.at (by k_asm) (by k_asm) (by k_asm) (RQ.mono (by k_asm) (by (first | with_reducible kcf_all | kcf_all))) | exact RQ.at (by k_asm) News.nil (by k_asm) (Or.inr (Or.inl ⟨rfl, rfl⟩)) | exact RQ.at (by k_asm) News.nil (by k_asm) (Or.inr (Or.inr ⟨rfl, rfl⟩)))); (case zzkd => (first | exact room_lt hdp (by rfl) | exact room_lt0 hdp | exact lt_ble (by rfl) | ktr_room)); (case zzku => (first | exact unit_lt hun (by rfl) | exact lt_ble (by rfl) | ktr_units)); (case zzhq => assumption)); intro D9 t9 u9 c9 h9 tk9 F9 N9 l9 r9; (try ((with_reducible rename Grown _ _ _ => gX); (have G9 := Grown.consN N9 gX l9 rfl); clear gX)); clear l9; (try k_sweep); (try dsimp only); (try k_fold))
  k_with "call ref" => (k_here; k_dflt (refine' con_useR (q_rdiv _ _ _ _ _ ?zzhq) ?zzk1 ?zzk2 ?zzk3 ?zzk4 ?zzk5 ?zzkK ?zzkp ?zzkd ?zzku ?_; (case zzk1 => k_asm); (case zzk2 => k_asm); (case zzk3 => k_asm); (case zzk4 => k_asm); (case zzk5 => k_asm); (case zzkK => first | exact rfl | assumption); (case zzkp => refine ⟨?_, ?_⟩ <;> (first | exact AQ.at (by k_asm) (by k_asm) | exact RQ.at (by k_asm) (by k_asm) (by k_asm) (by k_asm) | exact RQ.at (by k_asm) (by k_asm) (by k_asm) (RQ.mono (by k_asm) (by (first | with_reducible kcf_all | kcf_all))) | exact RQ.at (by k_asm) News.nil (by k_asm) (Or.inr (Or.inl ⟨rfl, rfl⟩)) | exact RQ.at (by k_asm) News.nil (by k_asm) (Or.inr (Or.inr ⟨rfl, rfl⟩)))); (case zzkd => (first | exact room_lt hdp (by rfl) | exact room_lt0 hdp | exact lt_ble (by rfl) | ktr_room)); (case zzku => (first | exact unit_lt hun (by rfl) | exact lt_ble (by rfl) | ktr_units)); (case zzhq => assumption)); intro D9 t9 u9 c9 h9 tk9 F9 N9 l9 r9; (try ((with_reducible rename Grown _ _ _ => gX); (have G9 := Grown.consN N9 gX l9 rfl); clear gX)); clear l9; (try k_sweep); (try dsimp only); (try k_fold))
  k_with "newTuple" => (k_here; (with_reducible show wpAny _ _ (newTuple [Value.int _ _, Value.int _ _]) _ _ _); k_dflt (refine newTuple_R (by k_asm) (by k_asm) ?_); intro D9 c9 h9 F9 N9 l9 r9; (try ((with_reducible rename Grown _ _ _ => gX); (have G9 := Grown.consN N9 gX l9 rfl); clear gX)); clear l9; (try k_sweep); (try dsimp only); (try k_fold))
  k_with "subscriptTail" => (k_here; (with_reducible show wpAny _ _ (subscriptTail _ _ (Value.ref _) (Value.int _ _)) _ _ _); k_dflt (refine' sub_S ?zzk1 ?zzk2 ?zzk3 ?zzk4 ?zzk5 ?_ ?zzk6; (case zzk1 => k_asm); (case zzk2 => assumption); (case zzk3 => omega); (case zzk4 => omega); (case zzk5 => omega); (case zzk6 => with_unfolding_all rfl)); intro b9 q9; (try dsimp only); (try k_fold))
  k_with "subscriptTail" => (k_here; (with_reducible show wpAny _ _ (subscriptTail _ _ (Value.ref _) (Value.int _ _)) _ _ _); k_dflt (refine' sub_L ?zzk1 ?zzk2 ?zzkA ?zzk3 ?zzk4 ?zzk5 ?_ ?zzk6; (case zzk1 => k_asm); (case zzk2 => (first | with_reducible kcf_m | kcf_m)); (case zzkA => refine AllR.mono (by k_asm) ?_; (first | with_reducible kcf_all | kcf_all)); (case zzk3 => omega); (case zzk4 => omega); (case zzk5 => omega); (case zzk6 => with_unfolding_all rfl)); intro b9 q9; (try dsimp only); (try k_fold))
  k_with "compareOp NotEq ref ref" => (k_here; k_dflt (refine' ne_Q ?zzk1 ?zzk2 ?zzku ?_; (case zzk1 => first | exact AQ.at (by k_asm) (by k_asm) | exact RQ.at (by k_asm) (by k_asm) (by k_asm) (by k_asm) | exact RQ.at (by k_asm) (by k_asm) (by k_asm) (RQ.mono (by k_asm) (by (first | with_reducible kcf_all | kcf_all))) | exact RQ.at (by k_asm) News.nil (by k_asm) (Or.inr (Or.inl ⟨rfl, rfl⟩)) | exact RQ.at (by k_asm) News.nil (by k_asm) (Or.inr (Or.inr ⟨rfl, rfl⟩))); (case zzk2 => first | exact AQ.at (by k_asm) (by k_asm) | exact RQ.at (by k_asm) (by k_asm) (by k_asm) (by k_asm) | exact RQ.at (by k_asm) (by k_asm) (by k_asm) (RQ.mono (by k_asm) (by (first | with_reducible kcf_all | kcf_all))) | exact RQ.at (by k_asm) News.nil (by k_asm) (Or.inr (Or.inl ⟨rfl, rfl⟩)) | exact RQ.at (by k_asm) News.nil (by k_asm) (Or.inr (Or.inr ⟨rfl, rfl⟩))); (case zzku => (first | exact unit_lt hun (by rfl) | exact lt_ble (by rfl) | ktr_units))); (first | rw [decide_eq_true (by k_asm)] | rw [decide_eq_false (by k_asm)]); (try dsimp only); (try k_fold))
  k_with "compareOp Eq ref ref" => (k_here; k_dflt (refine' eq_Q ?zzk1 ?zzk2 ?zzku ?_; (case zzk1 => first | exact AQ.at (by k_asm) (by k_asm) | exact RQ.at (by k_asm) (by k_asm) (by k_asm) (by k_asm) | exact RQ.at (by k_asm) (by k_asm) (by k_asm) (RQ.mono (by k_asm) (by (first | with_reducible kcf_all | kcf_all))) | exact RQ.at (by k_asm) News.nil (by k_asm) (Or.inr (Or.inl ⟨rfl, rfl⟩)) | exact RQ.at (by k_asm) News.nil (by k_asm) (Or.inr (Or.inr ⟨rfl, rfl⟩))); (case zzk2 => first | exact AQ.at (by k_asm) (by k_asm) | exact RQ.at (by k_asm) (by k_asm) (by k_asm) (by k_asm) | exact RQ.at (by k_asm) (by k_asm) (by k_asm) (RQ.mono (by k_asm) (by (first | with_reducible kcf_all | kcf_all))) | exact RQ.at (by k_asm) News.nil (by k_asm) (Or.inr (Or.inl ⟨rfl, rfl⟩)) | exact RQ.at (by k_asm) News.nil (by k_asm) (Or.inr (Or.inr ⟨rfl, rfl⟩))); (case zzku => (first | exact unit_lt hun (by rfl) | exact lt_ble (by rfl) | ktr_units))); (first | rw [decide_eq_true (by k_asm)] | rw [decide_eq_false (by k_asm)]); (try dsimp only); (try k_fold))
  k_with "newList" => (k_here; (with_reducible show wpAny _ _ (newList []) _ _ _); k_dflt (refine newList_R (by k_asm) (by k_asm) ?_); intro D9 h9 F9 N9 l9; (try k_sweep); (try dsimp only); (try k_fold))
  k_with "call builtin:list.append" => (k_here; k_dflt (refine' append_F ?zzk1 ?zzk2 ?zzk3 ?zzk4 ?_; (case zzk1 => k_asm); (case zzk2 => k_asm); (case zzk3 => (first | with_reducible kcf_m | kcf_m)); (case zzk4 => omega)); intro h9 F9 N9; (try k_sweep); (try dsimp only); (try k_fold))
  k_with "getMethod ref" => (k_here; (with_reducible show wpAny _ _ (getMethod (Value.ref _) (PySem.Str.ofString "append") _) _ _ _); k_dflt (refine' kl_method ?zzN ?zzm PySem.F.slot_list_append PySem.F.type_list_append ?_; (case zzN => k_asm); (case zzm => (first | with_reducible kcf_m | kcf_m))))
  k_with "call builtin:len" => (k_here; k_dflt (refine' len_S ?zzk1 ?zzk2 ?zzk3 ?_; (case zzk1 => k_asm); (case zzk2 => assumption); (case zzk3 => assumption)); (try dsimp only); (try k_fold))
  k_with "call ref" => (k_here; k_dflt (refine' con_use (q_let _ _ _ ?zzhq) ?zzk1 ?zzk2 ?zzk3 ?zzk4 ?zzk5 ?zzkK ?zzkp ?zzkd ?zzku ?_; (case zzk1 => k_asm); (case zzk2 => k_asm); (case zzk3 => k_asm); (case zzk4 => k_asm); (case zzk5 => k_asm); (case zzkK => first | exact rfl | assumption); (case zzkp => first | exact AQ.at (by k_asm) (by k_asm) | exact RQ.at (by k_asm) (by k_asm) (by k_asm) (by k_asm) | exact RQ.at (by k_asm) (by k_asm) (by k_asm) (RQ.mono (by k_asm) (by (first | with_reducible kcf_all | kcf_all))) | exact RQ.at (by k_asm) News.nil (by k_asm) (Or.inr (Or.inl ⟨rfl, rfl⟩)) | exact RQ.at (by k_asm) News.nil (by k_asm) (Or.inr (Or.inr ⟨rfl, rfl⟩))); (case zzkd => (first | exact room_lt hdp (by rfl) | exact room_lt0 hdp | exact lt_ble (by rfl) | ktr_room)); (case zzku => (first | exact unit_lt hun (by rfl) | exact lt_ble (by rfl) | ktr_units)); (case zzhq => assumption)); intro r9 h9 tk9 k9 F9 N9 e9; subst e9; clear k9; (try k_sweep); (try dsimp only); (try k_fold))
  k_with "call ref" => (k_here; k_dflt (refine' con_use (con_begin ?zzhq ?zzhr ?zzhs) ?zzk1 ?zzk2 ?zzk3 ?zzk4 ?zzk5 ?zzkK ?zzkp ?zzkd ?zzku ?_; (case zzk1 => k_asm); (case zzk2 => k_asm); (case zzk3 => k_asm); (case zzk4 => k_asm); (case zzk5 => k_asm); (case zzkK => first | exact rfl | assumption); (case zzkp => refine ⟨SQ.keeps (by k_asm) (Fr.keep (by k_asm)), ?_⟩; first | exact AQ.at (by k_asm) (by k_asm) | exact RQ.at (by k_asm) (by k_asm) (by k_asm) (by k_asm) | exact RQ.at (by k_asm) (by k_asm) (by k_asm) (RQ.mono (by k_asm) (by (first | with_reducible kcf_all | kcf_all))) | exact RQ.at (by k_asm) News.nil (by k_asm) (Or.inr (Or.inl ⟨rfl, rfl⟩)) | exact RQ.at (by k_asm) News.nil (by k_asm) (Or.inr (Or.inr ⟨rfl, rfl⟩))); (case zzkd => (first | exact room_lt hdp (by rfl) | exact room_lt0 hdp | exact lt_ble (by rfl) | ktr_room)); (case zzku => (first | exact unit_lt hun (by rfl) | exact lt_ble (by rfl) | ktr_units)); (case zzhq => assumption); (case zzhr => assumption); (case zzhs => assumption)); intro r9 h9 tk9 k9 F9 N9 e9; subst e9; clear k9; (try k_sweep); (try dsimp only); (try k_fold))
  have La := P.1.keeps keep0
  have Lb := P.2.keeps keep0
  have R2 := twoR w X'
  clear P
  unfold spowF at hq
  split at hq
  case isTrue => cases hq
  rename_i hbF
  have hbeg : begF as (1, 1) = true := by simpa using hbF
  clear hbF
  (try dsimp only)
  (try (with_reducible show wpAny _ _ _ _ _ _))
  (try k_fold)
  repeat' (first | (k_unfold; (try dsimp only)) | ((fail_if_success (with_reducible show wpAny _ _ (pyIter (Value.ref _)) _ _ _)); first | walk1 | (dsimp only; walk1)))
  (rename Fr _ _ _ _ => lF'); (rename News _ _ _ _ => lN'); (rename IsRange _ _ _ _ _ _ _ _ => lR)
  with_unfolding_all refine' for_grow (x := Str.ofString "at") _ qs _ [Str.ofString "total", Str.ofString "spot", Str.ofString "times"] (news := []) lR lF' lN' (by rfl) (by first | exact small_nat (by k_asm) | exact ⟨by decide, by decide, by omega, by omega⟩ | omega) (by first | exact nat_toNat0 _ | exact nat_toNat1 _ | exact congrArg Int.toNat (Int.sub_zero _).symm | exact congrArg Int.toNat (Int.add_sub_cancel _ _).symm | omega) hq (by (first | with_reducible kcf_m | kcf_m)) (fun _ h => nomatch h) (fun _ h => nomatch h) ?turn ?done
  · intro k' t' c c' vs n nt u h tk led hk0 hk1 hc hled hA hT hO hD hDn F1 N1
    clear lF' lN' lR hq hled
    (try dsimp only at hc)
    split at hc
    case isFalse => cases hc
    rename_i hlen
    have hvl := hA.1
    obtain ⟨tot, ht, hc⟩ := Option.bind_eq_some_iff.mp hc
    (try dsimp only)
    (try (with_reducible show wpAny _ _ _ _ _ _))
    (try k_fold)
    repeat' (first | (k_unfold; (try dsimp only)) | ((fail_if_success (with_reducible show wpAny _ _ (pyIter (Value.ref _)) _ _ _)); first | walk1 | (dsimp only; walk1)))
    (rename Fr _ _ _ _ => lF'); (rename News _ _ _ _ => lN'); (rename IsRange _ _ _ _ _ _ _ _ => lR)
    with_unfolding_all refine' for_one (x := Str.ofString "spot") _ tot (0, 1) (Str.ofString "total") [Str.ofString "times"] lR lF' lN' (by rfl) (by first | exact small_nat (by k_asm) | exact ⟨by decide, by decide, by omega, by omega⟩ | omega) (by first | exact nat_toNat0 _ | exact nat_toNat1 _ | exact congrArg Int.toNat (Int.sub_zero _).symm | exact congrArg Int.toNat (Int.add_sub_cancel _ _).symm | omega) ht (Or.inr (Or.inl ⟨rfl, rfl⟩)) (by rfl) ?turn5 ?done5
    · intro k2 t2 c2 c2' v2 u2 st2 h2' tk2 led2 hk20 hk21 hc2 hled2 hR2 hT2 hO2 F2 N2
      clear lF' lN' lR ht
      have hm2 := hled2 _ List.mem_cons_self
      have hA2 := hA.mono (fun p hp => hled2 p (List.mem_cons_of_mem _ (List.mem_append_left _ hp)))
      clear hled2 F1 N1
      (try dsimp only at hc2)
      obtain ⟨w1, hw1, hc2⟩ := Option.bind_eq_some_iff.mp hc2
      obtain ⟨w2, hw2, hc2⟩ := Option.bind_eq_some_iff.mp hc2
      obtain ⟨w3, hw3, hc2⟩ := Option.bind_eq_some_iff.mp hc2
      obtain ⟨w4, hw4, hc2⟩ := Option.bind_eq_some_iff.mp hc2
      have G2 := Grown.nil (base := st2 ++ led2)
      (try dsimp only)
      (try (with_reducible show wpAny _ _ _ _ _ _))
      (try k_fold)
      k_steps
      exact one_endG (by k_asm) rfl (by k_asm) (by k_asm) hT2 hO2 (RQ.mono (by k_asm) (by (first | with_reducible kcf_all | kcf_all))) rfl (by first | ktm_same2 | (intro z9 h91 h92; (simp only [List.contains_cons, List.contains_nil, Bool.or_false, Bool.or_eq_false_iff, beq_eq_false_iff_ne, ne_eq] at h91 h92 ⊢); simp [h91, h92]))
    · intro v2 u2 st2 h2' tk2 hR2 hT2 hO2 F2 N2
      clear lF' lN' lR ht F1 N1
      have G2 := Grown.app (Grown.nil (base := (_, listOf vs.toArray n) :: (nt ++ led))) hT2 hO2
      (try dsimp only)
      by_cases hk0' : k' = 0
      · rw [if_pos hk0'] at hc
        cases hc
        (try dsimp only)
        (try (with_reducible show wpAny _ _ _ _ _ _))
        (try k_fold)
        k_steps
        all_goals first
          | contradiction
          | exact grow_endG (by k_asm) hA hT hO hD hDn (Or.inr (Or.inr ⟨rfl, rfl⟩)) rfl (by k_asm) (by k_asm) (by first | ktm_same2 | (intro z9 h91 h92; (simp only [List.contains_cons, List.contains_nil, Bool.or_false, Bool.or_eq_false_iff, beq_eq_false_iff_ne, ne_eq] at h91 h92 ⊢); simp [h91, h92]))
      · rw [if_neg hk0'] at hc
        obtain ⟨x, hx, hc⟩ := Option.bind_eq_some_iff.mp hc
        obtain ⟨y, hy, hc⟩ := Option.map_eq_some_iff.mp hc
        subst hc
        have hxy := (letF_ok hy).1
        subst hxy
        (try dsimp only)
        (try (with_reducible show wpAny _ _ _ _ _ _))
        (try k_fold)
        k_steps
        all_goals first
          | contradiction
          | exact grow_endG (by k_asm) hA hT hO hD hDn (RQ.mono (by k_asm) (by (first | with_reducible kcf_all | kcf_all))) rfl (by k_asm) (by k_asm) (by first | ktm_same2 | (intro z9 h91 h92; (simp only [List.contains_cons, List.contains_nil, Bool.or_false, Bool.or_eq_false_iff, beq_eq_false_iff_ne, ne_eq] at h91 h92 ⊢); simp [h91, h92]))
  · intro vs n nt u h tk hA hT F1 N1
    clear lF' lN' lR hq
    (try dsimp only)
    (try (with_reducible show wpAny _ _ _ _ _ _))
    (try k_fold)
    k_steps
    exact conEndS keep0 rfl (by k_asm) (by k_asm) List.mem_cons_self (fun p hp => List.mem_cons_of_mem _ (List.mem_append_left _ hp)) hA hT

end

section

theorem con_smul (a b : Addr) (as bs qs : List Q2) (hq : smulF as bs = some qs) (h3 : as.length < 64) (h4 : bs.length < 64) :
    Con 125 40 [.ref a, .ref b] (fun h => SQ h a as ∧ SQ h b bs) (OutS qs) := by
  unfold Con
  k_fill
  intro w mean mg mb dp un gd cn cs aa ccd cl outer A₀ base h₀ L m s Q E B F X T hk P hdp hun ret
  refine wpAny_call ?_
  k_dflt (refine' code_conC [(Str.ofString "a", .ref a), (Str.ofString "b", .ref b)] ?k1 ?k2 ?k3 ?k5 ?kA ?kF ?kK ?k6 ?k7 ?k8 ?k9 ?kB ?kD ret ?_ ?c2 ?c3 ?c4; (case kA => exact rfl); (case kF => exact rfl); (case kK => assumption); (case k1 => k_asm); (case k2 => k_asm); (case k3 => k_asm); (case k5 => k_asm); (case k6 => k_is); (case k7 => k_is); (case k8 => (first | exact room_lt hdp (by rfl) | exact room_lt0 hdp | exact lt_ble (by rfl) | ktr_room)); (case k9 => exact BindsTo.of_eq rfl); (case kB => exact rfl); (case kD => decide +kernel); (case c2 => exact rfl); (case c3 => exact rfl); (case c4 => exact rfl); k_whole; intro g' L' h' tk0 cells' F' N' Y' B' X' T' keep0; k_cells Y'; (try dsimp only))
  clear ret B F T
  k_with_none
  k_with "call ref" => (k_here; k_dflt (refine' con_useR (q_radd _ _ _ _ _ ?zzhq) ?zzk1 ?zzk2 ?zzk3 ?zzk4 ?zzk5 ?zzkK ?zzkp ?zzkd ?zzku ?_; (case zzk1 => k_asm); (case zzk2 => k_asm); (case zzk3 => k_asm); (case zzk4 => k_asm); (case zzk5 => k_asm); (case zzkK => first | exact rfl | assumption); (case zzkp => refine ⟨?_, ?_⟩ <;> (first | exact AQ.at (by k_asm) (by k_asm) | exact RQ.at (by k_asm) (by k_asm) (by k_asm) (by k_asm) | exact RQ.at (by k_asm) (by k_asm) (by k_asm) (RQ.mono (by k_asm) (by (first | with_reducible kcf_all | kcf_all))) | exact RQ.at (by k_asm) News.nil (by k_asm) (Or.inr (Or.inl ⟨rfl, rfl⟩)) | exact RQ.at (by k_asm) News.nil (by k_asm) (Or.inr (Or.inr ⟨rfl, rfl⟩)))); (case zzkd => (first | exact room_lt hdp (by rfl) | exact room_lt0 hdp | exact lt_ble (by rfl) | ktr_room)); (case zzku => (first | exact unit_lt hun (by rfl) | exact lt_ble (by rfl) | ktr_units)); (case zzhq => assumption)); intro D9 t9 u9 c9 h9 tk9 F9 N9 l9 r9; (try ((with_reducible rename Grown _ _ _ => gX); (have G9 := Grown.consN N9 gX l9 rfl); clear gX)); clear l9; (try k_sweep); (try dsimp only); (try k_fold))
  k_with "call ref" => (k_here; k_dflt (refine' con_useR (q_rsub _ _ _ _ _ ?zzhq) ?zzk1 ?zzk2 ?zzk3 ?zzk4 ?zzk5 ?zzkK ?zzkp ?zzkd ?zzku ?_; (case zzk1 => k_asm); (case zzk2 => k_asm); (case zzk3 => k_asm); (case zzk4 => k_asm); (case zzk5 => k_asm); (case zzkK => first | exact rfl | assumption); (case zzkp => refine ⟨?_, ?_⟩ <;> (first | exact AQ.at (by k_asm) (by k_asm) | exact RQ.at (by k_asm) (by k_asm) (by k_asm) (by k_asm) | exact RQ.at (by k_asm) (by k_asm) (by k_asm) (RQ.mono (by k_asm) (by (first | with_reducible kcf_all | kcf_all))) | exact RQ.at (by k_asm) News.nil (by k_asm) (Or.inr (Or.inl ⟨rfl, rfl⟩)) | exact RQ.at (by k_asm) News.nil (by k_asm) (Or.inr (Or.inr ⟨rfl, rfl⟩)))); (case zzkd => (first | exact room_lt hdp (by rfl) | exact room_lt0 hdp | exact lt_ble (by rfl) | ktr_room)); (case zzku => (first | exact unit_lt hun (by rfl) | exact lt_ble (by rfl) | ktr_units)); (case zzhq => assumption)); intro D9 t9 u9 c9 h9 tk9 F9 N9 l9 r9; (try ((with_reducible rename Grown _ _ _ => gX); (have G9 := Grown.consN N9 gX l9 rfl); clear gX)); clear l9; (try k_sweep); (try dsimp only); (try k_fold))
  k_with "call ref" => (k_here; k_dflt (refine' con_useR (q_rmul _ _ _ _ _ ?zzhq) ?zzk1 ?zzk2 ?zzk3 ?zzk4 ?zzk5 ?zzkK ?zzkp ?zzkd ?zzku ?_; (case zzk1 => k_asm); (case zzk2 => k_asm); (case zzk3 => k_asm); (case zzk4 => k_asm); (case zzk5 => k_asm); (case zzkK => first | exact rfl | assumption); (case zzkp => refine ⟨?_, ?_⟩ <;> (first | exact AQ.at (by k_asm) (by k_asm) | exact RQ.at (by k_asm) (by k_asm) (by k_asm) (by k_asm) | exact RQ.at (by k_asm) (by k_asm) (by k_asm) (RQ.mono (by k_asm) (by (first | with_reducible kcf_all | kcf_all))) | exact RQ.at (by k_asm) News.nil (by k_asm) (Or.inr (Or.inl ⟨rfl, rfl⟩)) | exact RQ.at (by k_asm) News.nil (by k_asm) (Or.inr (Or.inr ⟨rfl, rfl⟩)))); (case zzkd => (first | exact room_lt hdp (by rfl) | exact room_lt0 hdp | exact lt_ble (by rfl) | ktr_room)); (case zzku => (first | exact unit_lt hun (by rfl) | exact lt_ble (by rfl) | ktr_units)); (case zzhq => assumption)); intro D9 t9 u9 c9 h9 tk9 F9 N9 l9 r9; (try ((with_reducible rename Grown _ _ _ => gX); (have G9 := Grown.consN N9 gX l9 rfl); clear gX)); clear l9; (try k_sweep); (try dsimp only); (try k_fold))
  k_with "call ref" => (k_here; k_dflt (refine' con_useR (q_rdiv _ _ _ _ _ ?zzhq) ?zzk1 ?zzk2 ?zzk3 ?zzk4 ?zzk5 ?zzkK ?zzkp ?zzkd ?zzku ?_; (case zzk1 => k_asm); (case zzk2 => k_asm); (case zzk3 => k_asm); (case zzk4 => k_asm); (case zzk5 => k_asm); (case zzkK => first | exact rfl | assumption); (case zzkp => refine ⟨?_, ?_⟩ <;> (first | exact AQ.at (by k_asm) (by k_asm) | exact RQ.at (by k_asm) (by k_asm) (by k_asm) (by k_asm) | exact RQ.at (by k_asm) (by k_asm) (by k_asm) (RQ.mono (by k_asm) (by (first | with_reducible kcf_all | kcf_all))) | exact RQ.at (by k_asm) News.nil (by k_asm) (Or.inr (Or.inl ⟨rfl, rfl⟩)) | exact RQ.at (by k_asm) News.nil (by k_asm) (Or.inr (Or.inr ⟨rfl, rfl⟩)))); (case zzkd => (first | exact room_lt hdp (by rfl) | exact room_lt0 hdp | exact lt_ble (by rfl) | ktr_room)); (case zzku => (first | exact unit_lt hun (by rfl) | exact lt_ble (by rfl) | ktr_units)); (case zzhq => assumption)); intro D9 t9 u9 c9 h9 tk9 F9 N9 l9 r9; (try ((with_reducible rename Grown _ _ _ => gX); (have G9 := Grown.consN N9 gX l9 rfl); clear gX)); clear l9; (try k_sweep); (try dsimp only); (try k_fold))
  k_with "newTuple" => (k_here; (with_reducible show wpAny _ _ (newTuple [Value.int _ _, Value.int _ _]) _ _ _); k_dflt (refine newTuple_R (by k_asm) (by k_asm) ?_); intro D9 c9 h9 F9 N9 l9 r9; (try ((with_reducible rename Grown _ _ _ => gX); (have G9 := Grown.consN N9 gX l9 rfl); clear gX)); clear l9; (try k_sweep); (try dsimp only); (try k_fold))
  k_with "subscriptTail" => (k_here; (with_reducible show wpAny _ _ (subscriptTail _ _ (Value.ref _) (Value.int _ _)) _ _ _); k_dflt (refine' sub_S ?zzk1 ?zzk2 ?zzk3 ?zzk4 ?zzk5 ?_ ?zzk6; (case zzk1 => k_asm); (case zzk2 => assumption); (case zzk3 => omega); (case zzk4 => omega); (case zzk5 => omega); (case zzk6 => with_unfolding_all rfl)); intro b9 q9; (try dsimp only); (try k_fold))
  k_with "call builtin:len" => (k_here; k_dflt (refine' len_S ?zzk1 ?zzk2 ?zzk3 ?_; (case zzk1 => k_asm); (case zzk2 => assumption); (case zzk3 => assumption)); (try dsimp only); (try k_fold))
  k_with "call ref" => (k_here; k_dflt (refine' con_use (q_let _ _ _ ?zzhq) ?zzk1 ?zzk2 ?zzk3 ?zzk4 ?zzk5 ?zzkK ?zzkp ?zzkd ?zzku ?_; (case zzk1 => k_asm); (case zzk2 => k_asm); (case zzk3 => k_asm); (case zzk4 => k_asm); (case zzk5 => k_asm); (case zzkK => first | exact rfl | assumption); (case zzkp => first | exact AQ.at (by k_asm) (by k_asm) | exact RQ.at (by k_asm) (by k_asm) (by k_asm) (by k_asm) | exact RQ.at (by k_asm) (by k_asm) (by k_asm) (RQ.mono (by k_asm) (by (first | with_reducible kcf_all | kcf_all))) | exact RQ.at (by k_asm) News.nil (by k_asm) (Or.inr (Or.inl ⟨rfl, rfl⟩)) | exact RQ.at (by k_asm) News.nil (by k_asm) (Or.inr (Or.inr ⟨rfl, rfl⟩))); (case zzkd => (first | exact room_lt hdp (by rfl) | exact room_lt0 hdp | exact lt_ble (by rfl) | ktr_room)); (case zzku => (first | exact unit_lt hun (by rfl) | exact lt_ble (by rfl) | ktr_units)); (case zzhq => assumption)); intro r9 h9 tk9 k9 F9 N9 e9; subst e9; clear k9; (try k_sweep); (try dsimp only); (try k_fold))
  k_with "eval ListComp" => (k_here; k_dflt (refine LCg.ListComp_U (F₀ := by k_asm) (by with_unfolding_all rfl) (by decide) (by rfl) (by decide) (by rfl) ?_))
  k_with "eval Name" => (k_here; (with_reducible show wpAny _ _ (eval (Expr.Name _ _) (compEnvC _ _ _ _)) _ _ _); k_dflt (refine kcf_cell (by k_asm) (by rfl) (by (first | with_reducible kcf_m | kcf_m)) (by k_asm) ?_))
  k_with "call ref" => (k_here; k_dflt (refine' con_useT (con_mixed _ _ _ _ _ _ _ ?zzhq ?zzh0 ?zzh1 ?zzh2 ?zzh3 ?zzh4) ?zzk1 ?zzk2 ?zzk3 ?zzk4 ?zzk5 ?zzkK ?zzkp ?zzkd ?zzku ?_; (case zzk1 => k_asm); (case zzk2 => k_asm); (case zzk3 => k_asm); (case zzk4 => k_asm); (case zzk5 => k_asm); (case zzkK => first | exact rfl | assumption); (case zzkp => refine ⟨SQ.keeps (by k_asm) (Fr.keep (by k_asm)), SQ.keeps (by k_asm) (Fr.keep (by k_asm))⟩); (case zzkd => (first | exact room_lt hdp (by rfl) | exact room_lt0 hdp | exact lt_ble (by rfl) | ktr_room)); (case zzku => (first | exact unit_lt hun (by rfl) | exact lt_ble (by rfl) | ktr_units)); (case zzhq => assumption); (case zzh0 => omega); (case zzh1 => omega); (case zzh2 => omega); (case zzh3 => omega); (case zzh4 => omega)); intro b9 nx9 h9 tk9 F9 N9 r9 T9 O9; (try ((with_reducible rename Grown _ _ _ => gX); (have G9 := Grown.app gX T9 O9); clear gX)); (try k_sweep); (try dsimp only); (try k_fold))
  rename_i o1 o2 hc1 hc2
  replace hc1 : o1.data = Data.cell (some (Value.ref b)) := hc1
  replace hc2 : o2.data = Data.cell (some (Value.ref a)) := hc2
  have La := P.1.keeps keep0
  have Lb := P.2.keeps keep0
  have R2 := twoR w X'
  clear P
  unfold smulF at hq
  (try dsimp only)
  (try (with_reducible show wpAny _ _ _ _ _ _))
  (try k_fold)
  repeat' (first | (k_unfold; (try dsimp only)) | ((fail_if_success (with_reducible show LCg.CompSrc _ _ _ _ _ _ _ _ _ _ _ _ _ _)); first | walk1 | (dsimp only; walk1)))
  (rename Fr _ _ _ _ => lF'); (rename News _ _ _ _ => lN'); (rename IsRange _ _ _ _ _ _ _ _ => lR)
  refine comp_src _ _ qs (by rfl) lF' lN' lR (by split <;> omega) (by split <;> omega) hq ?turn ?fin
  · intro k t q I oI C oC D m₂ ys nt gg h tk E' hk0 hk1 hc hC hx F1 N1
    clear lF' lN' lR hq
    (try dsimp only at hc)
    obtain ⟨w1, hw1, hw2⟩ := Option.bind_eq_some_iff.mp hc
    have e1 := (letF_ok hw2).1
    subst e1
    clear hc
    have G1 := Grown.ofNews N1
    (try dsimp only)
    (try (with_reducible show wpAny _ _ _ _ _ _))
    (try k_fold)
    k_steps
    exact elt_endG (by k_asm) rfl (by k_asm) (by k_asm) (RQ.mono (by k_asm) (by (first | with_reducible kcf_all | kcf_all)))
  · intro gg ys nt hA hT
    unfold LCg.FinE
    intro D h tk F1 N1 o1
    exact conEndS keep0 rfl F1 N1 List.mem_cons_self (fun p hp => List.mem_cons_of_mem _ (List.mem_append_left _ hp)) hA hT

end

section

theorem con_sder (a : Addr) (as qs : List Q2) (hq : sderF as = some qs) (h0 : 0 < as.length) (h3 : as.length < 64) :
    Con 137 40 [.ref a] (fun h => SQ h a as) (OutS qs) := by
  unfold Con
  k_fill
  intro w mean mg mb dp un gd cn cs aa ccd cl outer A₀ base h₀ L m s Q E B F X T hk P hdp hun ret
  refine wpAny_call ?_
  k_dflt (refine' code_conC [(Str.ofString "a", .ref a)] ?k1 ?k2 ?k3 ?k5 ?kA ?kF ?kK ?k6 ?k7 ?k8 ?k9 ?kB ?kD ret ?_ ?c2 ?c3 ?c4; (case kA => exact rfl); (case kF => exact rfl); (case kK => assumption); (case k1 => k_asm); (case k2 => k_asm); (case k3 => k_asm); (case k5 => k_asm); (case k6 => k_is); (case k7 => k_is); (case k8 => (first | exact room_lt hdp (by rfl) | exact room_lt0 hdp | exact lt_ble (by rfl) | ktr_room)); (case k9 => exact BindsTo.of_eq rfl); (case kB => exact rfl); (case kD => decide +kernel); (case c2 => exact rfl); (case c3 => exact rfl); (case c4 => exact rfl); k_whole; intro g' L' h' tk0 cells' F' N' Y' B' X' T' keep0; k_cells Y'; (try dsimp only))
  clear ret B F T
  k_with_none
  k_with "call ref" => (k_here; k_dflt (refine' con_useR (q_radd _ _ _ _ _ ?zzhq) ?zzk1 ?zzk2 ?zzk3 ?zzk4 ?zzk5 ?zzkK ?zzkp ?zzkd ?zzku ?_; (case zzk1 => k_asm); (case zzk2 => k_asm); (case zzk3 => k_asm); (case zzk4 => k_asm); (case zzk5 => k_asm); (case zzkK => first | exact rfl | assumption); (case zzkp => refine ⟨?_, ?_⟩ <;> (first | exact AQ.at (by k_asm) (by k_asm) | exact RQ.at (by k_asm) (by k_asm) (by k_asm) (by k_asm) | exact RQ.at (by k_asm) (by k_asm) (by k_asm) (RQ.mono (by k_asm) (by (first | with_reducible kcf_all | kcf_all))) | exact RQ.at (by k_asm) News.nil (by k_asm) (Or.inr (Or.inl ⟨rfl, rfl⟩)) | exact RQ.at (by k_asm) News.nil (by k_asm) (Or.inr (Or.inr ⟨rfl, rfl⟩)))); (case zzkd => (first | exact room_lt hdp (by rfl) | exact room_lt0 hdp | exact lt_ble (by rfl) | ktr_room)); (case zzku => (first | exact unit_lt hun (by rfl) | exact lt_ble (by rfl) | ktr_units)); (case zzhq => assumption)); intro D9 t9 u9 c9 h9 tk9 F9 N9 l9 r9; (try ((with_reducible rename Grown _ _ _ => gX); (have G9 := Grown.consN N9 gX l9 rfl); clear gX)); clear l9; (try k_sweep); (try dsimp only); (try k_fold))
  k_with "call ref" => (k_here; k_dflt (refine' con_useR (q_rsub _ _ _ _ _ ?zzhq) ?zzk1 ?zzk2 ?zzk3 ?zzk4 ?zzk5 ?zzkK ?zzkp ?zzkd ?zzku ?_; (case zzk1 => k_asm); (case zzk2 => k_asm); (case zzk3 => k_asm); (case zzk4 => k_asm); (case zzk5 => k_asm); (case zzkK => first | exact rfl | assumption); (case zzkp => refine ⟨?_, ?_⟩ <;> (first | exact AQ.at (by k_asm) (by k_asm) | exact RQ.at (by k_asm) (by k_asm) (by k_asm) (by k_asm) | exact RQ.at (by k_asm) (by k_asm) (by k_asm) (RQ.mono (by k_asm) (by (first | with_reducible kcf_all | kcf_all))) | exact RQ.at (by k_asm) News.nil (by k_asm) (Or.inr (Or.inl ⟨rfl, rfl⟩)) | exact RQ.at (by k_asm) News.nil (by k_asm) (Or.inr (Or.inr ⟨rfl, rfl⟩)))); (case zzkd => (first | exact room_lt hdp (by rfl) | exact room_lt0 hdp | exact lt_ble (by rfl) | ktr_room)); (case zzku => (first | exact unit_lt hun (by rfl) | exact lt_ble (by rfl) | ktr_units)); (case zzhq => assumption)); intro D9 t9 u9 c9 h9 tk9 F9 N9 l9 r9; (try ((with_reducible rename Grown _ _ _ => gX); (have G9 := Grown.consN N9 gX l9 rfl); clear gX)); clear l9; (try k_sweep); (try dsimp only); (try k_fold))
  k_with "call ref" => (k_here; k_dflt (refine' con_useR (q_rmul _ _ _ _ _ ?zzhq) ?zzk1 ?zzk2 ?zzk3 ?zzk4 ?zzk5 ?zzkK ?zzkp ?zzkd ?zzku ?_; (case zzk1 => k_asm); (case zzk2 => k_asm); (case zzk3 => k_asm); (case zzk4 => k_asm); (case zzk5 => k_asm); (case zzkK => first | exact rfl | assumption); (case zzkp => refine ⟨?_, ?_⟩ <;> (first | exact AQ.at (by k_asm) (by k_asm) | exact RQ.at (by k_asm) (by k_asm) (by k_asm) (by k_asm) | exact RQ.at (by k_asm) (by k_asm) (by k_asm) (RQ.mono (by k_asm) (by (first | with_reducible kcf_all | kcf_all))) | exact RQ.at (by k_asm) News.nil (by k_asm) (Or.inr (Or.inl ⟨rfl, rfl⟩)) | exact RQ.at (by k_asm) News.nil (by k_asm) (Or.inr (Or.inr ⟨rfl, rfl⟩)))); (case zzkd => (first | exact room_lt hdp (by rfl) | exact room_lt0 hdp | exact lt_ble (by rfl) | ktr_room)); (case zzku => (first | exact unit_lt hun (by rfl) | exact lt_ble (by rfl) | ktr_units)); (case zzhq => assumption)); intro D9 t9 u9 c9 h9 tk9 F9 N9 l9 r9; (try ((with_reducible rename Grown _ _ _ => gX); (have G9 := Grown.consN N9 gX l9 rfl); clear gX)); clear l9; (try k_sweep); (try dsimp only); (try k_fold))
  k_with "call ref" => (k_here; k_dflt (refine' con_useR (q_rdiv _ _ _ _ _ ?zzhq) ?zzk1 ?zzk2 ?zzk3 ?zzk4 ?zzk5 ?zzkK ?zzkp ?zzkd ?zzku ?_; (case zzk1 => k_asm); (case zzk2 => k_asm); (case zzk3 => k_asm); (case zzk4 => k_asm); (case zzk5 => k_asm); (case zzkK => first | exact rfl | assumption); (case zzkp => refine ⟨?_, ?_⟩ <;> (first | exact AQ.at (by k_asm) (by k_asm) | exact RQ.at (by k_asm) (by k_asm) (by k_asm) (by k_asm) | exact RQ.at (by k_asm) (by k_asm) (by k_asm) (RQ.mono (by k_asm) (by (first | with_reducible kcf_all | kcf_all))) | exact RQ.at (by k_asm) News.nil (by k_asm) (Or.inr (Or.inl ⟨rfl, rfl⟩)) | exact RQ.at (by k_asm) News.nil (by k_asm) (Or.inr (Or.inr ⟨rfl, rfl⟩)))); (case zzkd => (first | exact room_lt hdp (by rfl) | exact room_lt0 hdp | exact lt_ble (by rfl) | ktr_room)); (case zzku => (first | exact unit_lt hun (by rfl) | exact lt_ble (by rfl) | ktr_units)); (case zzhq => assumption)); intro D9 t9 u9 c9 h9 tk9 F9 N9 l9 r9; (try ((with_reducible rename Grown _ _ _ => gX); (have G9 := Grown.consN N9 gX l9 rfl); clear gX)); clear l9; (try k_sweep); (try dsimp only); (try k_fold))
  k_with "newTuple" => (k_here; (with_reducible show wpAny _ _ (newTuple [Value.int _ _, Value.int _ _]) _ _ _); k_dflt (refine newTuple_R (by k_asm) (by k_asm) ?_); intro D9 c9 h9 F9 N9 l9 r9; (try ((with_reducible rename Grown _ _ _ => gX); (have G9 := Grown.consN N9 gX l9 rfl); clear gX)); clear l9; (try k_sweep); (try dsimp only); (try k_fold))
  k_with "subscriptTail" => (k_here; (with_reducible show wpAny _ _ (subscriptTail _ _ (Value.ref _) (Value.int _ _)) _ _ _); k_dflt (refine' sub_S ?zzk1 ?zzk2 ?zzk3 ?zzk4 ?zzk5 ?_ ?zzk6; (case zzk1 => k_asm); (case zzk2 => assumption); (case zzk3 => omega); (case zzk4 => omega); (case zzk5 => omega); (case zzk6 => with_unfolding_all rfl)); intro b9 q9; (try dsimp only); (try k_fold))
  k_with "call builtin:len" => (k_here; k_dflt (refine' len_S ?zzk1 ?zzk2 ?zzk3 ?_; (case zzk1 => k_asm); (case zzk2 => assumption); (case zzk3 => assumption)); (try dsimp only); (try k_fold))
  k_with "eval ListComp" => (k_here; k_dflt (refine LCg.ListComp_U (F₀ := by k_asm) (by with_unfolding_all rfl) (by decide) (by rfl) (by decide) (by rfl) ?_))
  k_with "eval Name" => (k_here; (with_reducible show wpAny _ _ (eval (Expr.Name _ _) (compEnvC _ _ _ _)) _ _ _); k_dflt (refine kcf_cell (by k_asm) (by rfl) (by (first | with_reducible kcf_m | kcf_m)) (by k_asm) ?_))
  k_with "binaryOp Add ref ref" => (k_here; k_dflt (refine' add_R ?zzk1 ?zzk2 ?zzk3 ?zzk4 ?zzk5 ?_; (case zzk1 => k_asm); (case zzk2 => k_asm); (case zzk3 => (first | with_reducible kcf_m | kcf_m)); (case zzk4 => (first | with_reducible kcf_m | kcf_m)); (case zzk5 => ((try simp only [List.length_cons, List.length_nil, List.length_append, List.length_replicate, List.length_drop]); first | assumption | exact lt_ble (by rfl) | omega))); intro D9 h9 F9 N9 l9; (try k_sweep); (try dsimp only); (try k_fold))
  rename_i o1 hc1
  replace hc1 : o1.data = Data.cell (some (Value.ref a)) := hc1
  have La := P.keeps keep0
  have R2 := twoR w X'
  clear P
  unfold sderF at hq
  (try dsimp only)
  (try (with_reducible show wpAny _ _ _ _ _ _))
  (try k_fold)
  repeat' (first | (k_unfold; (try dsimp only)) | ((fail_if_success (with_reducible show LCg.CompSrc _ _ _ _ _ _ _ _ _ _ _ _ _ _)); first | walk1 | (dsimp only; walk1)))
  (rename Fr _ _ _ _ => lF'); (rename News _ _ _ _ => lN'); (rename IsRange _ _ _ _ _ _ _ _ => lR)
  refine comp_src _ _ qs (by rfl) lF' lN' lR (by first | exact small_nat (by k_asm) | exact ⟨by decide, by decide, by omega, by omega⟩ | omega) (by first | exact nat_toNat0 _ | exact nat_toNat1 _ | exact congrArg Int.toNat (Int.sub_zero _).symm | exact congrArg Int.toNat (Int.add_sub_cancel _ _).symm | omega) hq ?turn ?fin
  · intro k t q I oI C oC D m₂ ys nt gg h tk E' hk0 hk1 hc hC hx F1 N1
    clear lF' lN' lR hq
    (try dsimp only at hc)
    have G1 := Grown.ofNews N1
    (try dsimp only)
    (try (with_reducible show wpAny _ _ _ _ _ _))
    (try k_fold)
    k_steps
    exact elt_endG (by k_asm) rfl (by k_asm) (by k_asm) (RQ.mono (by k_asm) (by (first | with_reducible kcf_all | kcf_all)))
  · intro gg ys nt hA hT
    unfold LCg.FinE
    intro D h tk F1 N1 o1
    exact conEndS keep0 rfl F1 N1 List.mem_cons_self (fun p hp => List.mem_cons_of_mem _ (List.mem_append_left _ hp)) hA hT
theorem con_sint (a : Addr) (as qs : List Q2) (hq : sintF as = some qs) (h0 : 0 < as.length) (h3 : as.length < 64) :
    Con 142 40 [.ref a] (fun h => SQ h a as) (OutS qs) := by
  unfold Con
  k_fill
  intro w mean mg mb dp un gd cn cs aa ccd cl outer A₀ base h₀ L m s Q E B F X T hk P hdp hun ret
  refine wpAny_call ?_
  k_dflt (refine' code_conC [(Str.ofString "a", .ref a)] ?k1 ?k2 ?k3 ?k5 ?kA ?kF ?kK ?k6 ?k7 ?k8 ?k9 ?kB ?kD ret ?_ ?c2 ?c3 ?c4; (case kA => exact rfl); (case kF => exact rfl); (case kK => assumption); (case k1 => k_asm); (case k2 => k_asm); (case k3 => k_asm); (case k5 => k_asm); (case k6 => k_is); (case k7 => k_is); (case k8 => (first | exact room_lt hdp (by rfl) | exact room_lt0 hdp | exact lt_ble (by rfl) | ktr_room)); (case k9 => exact BindsTo.of_eq rfl); (case kB => exact rfl); (case kD => decide +kernel); (case c2 => exact rfl); (case c3 => exact rfl); (case c4 => exact rfl); k_whole; intro g' L' h' tk0 cells' F' N' Y' B' X' T' keep0; k_cells Y'; (try dsimp only))
  clear ret B F T
  k_with_none
  k_with "call ref" => (k_here; k_dflt (refine' con_useR (q_radd _ _ _ _ _ ?zzhq) ?zzk1 ?zzk2 ?zzk3 ?zzk4 ?zzk5 ?zzkK ?zzkp ?zzkd ?zzku ?_; (case zzk1 => k_asm); (case zzk2 => k_asm); (case zzk3 => k_asm); (case zzk4 => k_asm); (case zzk5 => k_asm); (case zzkK => first | exact rfl | assumption); (case zzkp => refine ⟨?_, ?_⟩ <;> (first | exact AQ.at (by k_asm) (by k_asm) | exact RQ.at (by k_asm) (by k_asm) (by k_asm) (by k_asm) | exact RQ.at (by k_asm) (by k_asm) (by k_asm) (RQ.mono (by k_asm) (by (first | with_reducible kcf_all | kcf_all))) | exact RQ.at (by k_asm) News.nil (by k_asm) (Or.inr (Or.inl ⟨rfl, rfl⟩)) | exact RQ.at (by k_asm) News.nil (by k_asm) (Or.inr (Or.inr ⟨rfl, rfl⟩)))); (case zzkd => (first | exact room_lt hdp (by rfl) | exact room_lt0 hdp | exact lt_ble (by rfl) | ktr_room)); (case zzku => (first | exact unit_lt hun (by rfl) | exact lt_ble (by rfl) | ktr_units)); (case zzhq => assumption)); intro D9 t9 u9 c9 h9 tk9 F9 N9 l9 r9; (try ((with_reducible rename Grown _ _ _ => gX); (have G9 := Grown.consN N9 gX l9 rfl); clear gX)); clear l9; (try k_sweep); (try dsimp only); (try k_fold))
  k_with "call ref" => (k_here; k_dflt (refine' con_useR (q_rsub _ _ _ _ _ ?zzhq) ?zzk1 ?zzk2 ?zzk3 ?zzk4 ?zzk5 ?zzkK ?zzkp ?zzkd ?zzku ?_; (case zzk1 => k_asm); (case zzk2 => k_asm); (case zzk3 => k_asm); (case zzk4 => k_asm); (case zzk5 => k_asm); (case zzkK => first | exact rfl | assumption); (case zzkp => refine ⟨?_, ?_⟩ <;> (first | exact AQ.at (by k_asm) (by k_asm) | exact RQ.at (by k_asm) (by k_asm) (by k_asm) (by k_asm) | exact RQ.at (by k_asm) (by k_asm) (by k_asm) (RQ.mono (by k_asm) (by (first | with_reducible kcf_all | kcf_all))) | exact RQ.at (by k_asm) News.nil (by k_asm) (Or.inr (Or.inl ⟨rfl, rfl⟩)) | exact RQ.at (by k_asm) News.nil (by k_asm) (Or.inr (Or.inr ⟨rfl, rfl⟩)))); (case zzkd => (first | exact room_lt hdp (by rfl) | exact room_lt0 hdp | exact lt_ble (by rfl) | ktr_room)); (case zzku => (first | exact unit_lt hun (by rfl) | exact lt_ble (by rfl) | ktr_units)); (case zzhq => assumption)); intro D9 t9 u9 c9 h9 tk9 F9 N9 l9 r9; (try ((with_reducible rename Grown _ _ _ => gX); (have G9 := Grown.consN N9 gX l9 rfl); clear gX)); clear l9; (try k_sweep); (try dsimp only); (try k_fold))
  k_with "call ref" => (k_here; k_dflt (refine' con_useR (q_rmul _ _ _ _ _ ?zzhq) ?zzk1 ?zzk2 ?zzk3 ?zzk4 ?zzk5 ?zzkK ?zzkp ?zzkd ?zzku ?_; (case zzk1 => k_asm); (case zzk2 => k_asm); (case zzk3 => k_asm); (case zzk4 => k_asm); (case zzk5 => k_asm); (case zzkK => first | exact rfl | assumption); (case zzkp => refine ⟨?_, ?_⟩ <;> (first | exact AQ.at (by k_asm) (by k_asm) | exact RQ.at (by k_asm) (by k_asm) (by k_asm) (by k_asm) | exact RQ.at (by k_asm) (by k_asm) (by k_asm) (RQ.mono (by k_asm) (by (first | with_reducible kcf_all | kcf_all))) | exact RQ.at (by k_asm) News.nil (by k_asm) (Or.inr (Or.inl ⟨rfl, rfl⟩)) | exact RQ.at (by k_asm) News.nil (by k_asm) (Or.inr (Or.inr ⟨rfl, rfl⟩)))); (case zzkd => (first | exact room_lt hdp (by rfl) | exact room_lt0 hdp | exact lt_ble (by rfl) | ktr_room)); (case zzku => (first | exact unit_lt hun (by rfl) | exact lt_ble (by rfl) | ktr_units)); (case zzhq => assumption)); intro D9 t9 u9 c9 h9 tk9 F9 N9 l9 r9; (try ((with_reducible rename Grown _ _ _ => gX); (have G9 := Grown.consN N9 gX l9 rfl); clear gX)); clear l9; (try k_sweep); (try dsimp only); (try k_fold))
  k_with "call ref" => (k_here; k_dflt (refine' con_useR (q_rdiv _ _ _ _ _ ?zzhq) ?zzk1 ?zzk2 ?zzk3 ?zzk4 ?zzk5 ?zzkK ?zzkp ?zzkd ?zzku ?_; (case zzk1 => k_asm); (case zzk2 => k_asm); (case zzk3 => k_asm); (case zzk4 => k_asm); (case zzk5 => k_asm); (case zzkK => first | exact rfl | assumption); (case zzkp => refine ⟨?_, ?_⟩ <;> (first | exact AQ.at (by k_asm) (by k_asm) | exact RQ.at (by k_asm) (by k_asm) (by k_asm) (by k_asm) | exact RQ.at (by k_asm) (by k_asm) (by k_asm) (RQ.mono (by k_asm) (by (first | with_reducible kcf_all | kcf_all))) | exact RQ.at (by k_asm) News.nil (by k_asm) (Or.inr (Or.inl ⟨rfl, rfl⟩)) | exact RQ.at (by k_asm) News.nil (by k_asm) (Or.inr (Or.inr ⟨rfl, rfl⟩)))); (case zzkd => (first | exact room_lt hdp (by rfl) | exact room_lt0 hdp | exact lt_ble (by rfl) | ktr_room)); (case zzku => (first | exact unit_lt hun (by rfl) | exact lt_ble (by rfl) | ktr_units)); (case zzhq => assumption)); intro D9 t9 u9 c9 h9 tk9 F9 N9 l9 r9; (try ((with_reducible rename Grown _ _ _ => gX); (have G9 := Grown.consN N9 gX l9 rfl); clear gX)); clear l9; (try k_sweep); (try dsimp only); (try k_fold))
  k_with "newTuple" => (k_here; (with_reducible show wpAny _ _ (newTuple [Value.int _ _, Value.int _ _]) _ _ _); k_dflt (refine newTuple_R (by k_asm) (by k_asm) ?_); intro D9 c9 h9 F9 N9 l9 r9; (try ((with_reducible rename Grown _ _ _ => gX); (have G9 := Grown.consN N9 gX l9 rfl); clear gX)); clear l9; (try k_sweep); (try dsimp only); (try k_fold))
  k_with "subscriptTail" => (k_here; (with_reducible show wpAny _ _ (subscriptTail _ _ (Value.ref _) (Value.int _ _)) _ _ _); k_dflt (refine' sub_S ?zzk1 ?zzk2 ?zzk3 ?zzk4 ?zzk5 ?_ ?zzk6; (case zzk1 => k_asm); (case zzk2 => assumption); (case zzk3 => omega); (case zzk4 => omega); (case zzk5 => omega); (case zzk6 => with_unfolding_all rfl)); intro b9 q9; (try dsimp only); (try k_fold))
  k_with "call builtin:len" => (k_here; k_dflt (refine' len_S ?zzk1 ?zzk2 ?zzk3 ?_; (case zzk1 => k_asm); (case zzk2 => assumption); (case zzk3 => assumption)); (try dsimp only); (try k_fold))
  k_with "eval ListComp" => (k_here; k_dflt (refine LCg.ListComp_U (F₀ := by k_asm) (by with_unfolding_all rfl) (by decide) (by rfl) (by decide) (by rfl) ?_))
  k_with "eval Name" => (k_here; (with_reducible show wpAny _ _ (eval (Expr.Name _ _) (compEnvC _ _ _ _)) _ _ _); k_dflt (refine kcf_cell (by k_asm) (by rfl) (by (first | with_reducible kcf_m | kcf_m)) (by k_asm) ?_))
  k_with "binaryOp Add ref ref" => (k_here; k_dflt (refine' add_R ?zzk1 ?zzk2 ?zzk3 ?zzk4 ?zzk5 ?_; (case zzk1 => k_asm); (case zzk2 => k_asm); (case zzk3 => (first | with_reducible kcf_m | kcf_m)); (case zzk4 => (first | with_reducible kcf_m | kcf_m)); (case zzk5 => ((try simp only [List.length_cons, List.length_nil, List.length_append, List.length_replicate, List.length_drop]); first | assumption | exact lt_ble (by rfl) | omega))); intro D9 h9 F9 N9 l9; (try k_sweep); (try dsimp only); (try k_fold))
  rename_i o1 hc1
  replace hc1 : o1.data = Data.cell (some (Value.ref a)) := hc1
  have La := P.keeps keep0
  have R2 := twoR w X'
  clear P
  unfold sintF at hq
  obtain ⟨rs, hr, hq⟩ := Option.map_eq_some_iff.mp hq
  subst hq
  (try dsimp only)
  (try (with_reducible show wpAny _ _ _ _ _ _))
  (try k_fold)
  repeat' (first | (k_unfold; (try dsimp only)) | ((fail_if_success (with_reducible show LCg.CompSrc _ _ _ _ _ _ _ _ _ _ _ _ _ _)); first | walk1 | (dsimp only; walk1)))
  (rename Fr _ _ _ _ => lF'); (rename News _ _ _ _ => lN'); (rename IsRange _ _ _ _ _ _ _ _ => lR)
  refine comp_src _ _ rs (by rfl) lF' lN' lR (by first | exact small_nat (by k_asm) | exact ⟨by decide, by decide, by omega, by omega⟩ | omega) (by first | exact nat_toNat0 _ | exact nat_toNat1 _ | exact congrArg Int.toNat (Int.sub_zero _).symm | exact congrArg Int.toNat (Int.add_sub_cancel _ _).symm | omega) hr ?turn ?fin
  · intro k t q I oI C oC D m₂ ys nt gg h tk E' hk0 hk1 hc hC hx F1 N1
    clear lF' lN' lR hr
    (try dsimp only at hc)
    have G1 := Grown.ofNews N1
    (try dsimp only)
    (try (with_reducible show wpAny _ _ _ _ _ _))
    (try k_fold)
    k_steps
    exact elt_endG (by k_asm) rfl (by k_asm) (by k_asm) (RQ.mono (by k_asm) (by (first | with_reducible kcf_all | kcf_all)))
  · intro gg ys nt hA hT
    have hys := hA.1
    have hrs : rs.length < 64 := by
      have : ∀ (f : Int → Option Q2) (n : Nat) (k : Int) (rs : List Q2), compO f n k = some rs → rs.length = n := by
        intro f n
        induction n with
        | zero => intro k rs h; cases h; rfl
        | succ n ih =>
          intro k rs h
          simp only [compO] at h
          obtain ⟨q, _, h⟩ := Option.bind_eq_some_iff.mp h
          obtain ⟨r3, h3, h⟩ := Option.map_eq_some_iff.mp h
          subst h
          simp [ih _ _ h3]
      rw [this _ _ _ _ hr]; exact h3
    unfold LCg.FinE
    intro D h tk F1 N1 o1
    clear lF' lN' lR hr
    (try dsimp only)
    (try (with_reducible show wpAny _ _ _ _ _ _))
    (try k_fold)
    k_steps
    exact conEndS keep0 rfl (by k_asm) (by k_asm) List.mem_cons_self (by (first | with_reducible kcf_all | kcf_all)) (AllR.cons (Or.inr (Or.inl ⟨rfl, rfl⟩)) hA) hT

end

section
section

theorem con_slog (a : Addr) (as qs : List Q2) (hq : slogF as = some qs) (h0 : 0 < as.length) (h3 : as.length < 64) :
    Con 163 60 [.ref a] (fun h => SQ h a as) (OutS qs) := by
  unfold Con
  k_fill
  intro w mean mg mb dp un gd cn cs aa ccd cl outer A₀ base h₀ L m s Q E B F X T hk P hdp hun ret
  refine wpAny_call ?_
  k_dflt (refine' code_con [(Str.ofString "a", .ref a)] ?k1 ?k2 ?k3 ?k5 ?kA ?kF ?kK ?k6 ?k7 ?k8 ?k9 ?kB ret ?_ ?c2 ?c3 ?c4 ?c5; (case kA => exact rfl); (case kF => exact rfl); (case kK => assumption); (case k1 => k_asm); (case k2 => k_asm); (case k3 => k_asm); (case k5 => k_asm); (case k6 => k_is); (case k7 => k_is); (case k8 => (first | exact room_lt hdp (by rfl) | exact room_lt0 hdp | exact lt_ble (by rfl) | ktr_room)); (case k9 => exact BindsTo.of_eq rfl); (case c5 => decide); (case kB => exact locs rfl); (case c2 => exact rfl); (case c3 => exact rfl); (case c4 => exact rfl); k_whole; intro g' L' h' tk0 F' N' B' X' T' keep0; (try dsimp only))
  clear ret B F T
  (try simp only [List.reverse_cons, List.reverse_nil, List.nil_append, List.cons_append, kstB] at F')
  k_with_none
  k_with "call ref" => (k_here; k_dflt (refine' con_use (con_begin ?zzhq ?zzhr ?zzhs) ?zzk1 ?zzk2 ?zzk3 ?zzk4 ?zzk5 ?zzkK ?zzkp ?zzkd ?zzku ?_; (case zzk1 => k_asm); (case zzk2 => k_asm); (case zzk3 => k_asm); (case zzk4 => k_asm); (case zzk5 => k_asm); (case zzkK => first | exact rfl | assumption); (case zzkp => refine ⟨SQ.keeps (by k_asm) (Fr.keep (by k_asm)), ?_⟩; first | exact AQ.at (by k_asm) (by k_asm) | exact RQ.at (by k_asm) (by k_asm) (by k_asm) (by k_asm) | exact RQ.at (by k_asm) (by k_asm) (by k_asm) (RQ.mono (by k_asm) (by (first | with_reducible kcf_all | kcf_all))) | exact RQ.at (by k_asm) News.nil (by k_asm) (Or.inr (Or.inl ⟨rfl, rfl⟩)) | exact RQ.at (by k_asm) News.nil (by k_asm) (Or.inr (Or.inr ⟨rfl, rfl⟩))); (case zzkd => (first | exact room_lt hdp (by rfl) | exact room_lt0 hdp | exact lt_ble (by rfl) | ktr_room)); (case zzku => (first | exact unit_lt hun (by rfl) | exact lt_ble (by rfl) | ktr_units)); (case zzhq => assumption); (case zzhr => assumption); (case zzhs => assumption)); intro r9 h9 tk9 k9 F9 N9 e9; subst e9; clear k9; (try k_sweep); (try dsimp only); (try k_fold))
  k_with "call ref" => (k_here; k_dflt (refine' con_useS (con_smul _ _ _ _ _ ?zzhq ?zzh3 ?zzh4) ?zzk1 ?zzk2 ?zzk3 ?zzk4 ?zzk5 ?zzkK ?zzkp ?zzkd ?zzku ?_; (case zzk1 => k_asm); (case zzk2 => k_asm); (case zzk3 => k_asm); (case zzk4 => k_asm); (case zzk5 => k_asm); (case zzkK => first | exact rfl | assumption); (case zzkp => refine ⟨?_, ?_⟩ <;> (first | exact SQ.keeps (by k_asm) (Fr.keep (by k_asm)) | exact AllR.sq (by k_asm) (by k_asm) (by k_asm) (by (first | with_reducible kcf_m | kcf_m)) (AllR.mono (by k_asm) (by (first | with_reducible kcf_all | kcf_all))))); (case zzkd => (first | exact room_lt hdp (by rfl) | exact room_lt0 hdp | exact lt_ble (by rfl) | ktr_room)); (case zzku => (first | exact unit_lt hun (by rfl) | exact lt_ble (by rfl) | ktr_units)); (case zzhq => assumption); (case zzh3 => omega); (case zzh4 => omega)); intro D9 n9 vs9 nx9 h9 tk9 F9 N9 A9 T9 O9 d9; (have v9 := A9.1); (try k_sweep); (try dsimp only); (try k_fold))
  k_with "call ref" => (k_here; k_dflt (refine' con_useS (con_sinv _ _ _ ?zzhq ?zzh0 ?zzh3) ?zzk1 ?zzk2 ?zzk3 ?zzk4 ?zzk5 ?zzkK ?zzkp ?zzkd ?zzku ?_; (case zzk1 => k_asm); (case zzk2 => k_asm); (case zzk3 => k_asm); (case zzk4 => k_asm); (case zzk5 => k_asm); (case zzkK => first | exact rfl | assumption); (case zzkp => first | exact SQ.keeps (by k_asm) (Fr.keep (by k_asm)) | exact AllR.sq (by k_asm) (by k_asm) (by k_asm) (by (first | with_reducible kcf_m | kcf_m)) (AllR.mono (by k_asm) (by (first | with_reducible kcf_all | kcf_all)))); (case zzkd => (first | exact room_lt hdp (by rfl) | exact room_lt0 hdp | exact lt_ble (by rfl) | ktr_room)); (case zzku => (first | exact unit_lt hun (by rfl) | exact lt_ble (by rfl) | ktr_units)); (case zzhq => assumption); (case zzh0 => omega); (case zzh3 => omega)); intro D9 n9 vs9 nx9 h9 tk9 F9 N9 A9 T9 O9 d9; (have v9 := A9.1); (try k_sweep); (try dsimp only); (try k_fold))
  k_with "call ref" => (k_here; k_dflt (refine' con_useS (con_sder _ _ _ ?zzhq ?zzh0 ?zzh3) ?zzk1 ?zzk2 ?zzk3 ?zzk4 ?zzk5 ?zzkK ?zzkp ?zzkd ?zzku ?_; (case zzk1 => k_asm); (case zzk2 => k_asm); (case zzk3 => k_asm); (case zzk4 => k_asm); (case zzk5 => k_asm); (case zzkK => first | exact rfl | assumption); (case zzkp => first | exact SQ.keeps (by k_asm) (Fr.keep (by k_asm)) | exact AllR.sq (by k_asm) (by k_asm) (by k_asm) (by (first | with_reducible kcf_m | kcf_m)) (AllR.mono (by k_asm) (by (first | with_reducible kcf_all | kcf_all)))); (case zzkd => (first | exact room_lt hdp (by rfl) | exact room_lt0 hdp | exact lt_ble (by rfl) | ktr_room)); (case zzku => (first | exact unit_lt hun (by rfl) | exact lt_ble (by rfl) | ktr_units)); (case zzhq => assumption); (case zzh0 => omega); (case zzh3 => omega)); intro D9 n9 vs9 nx9 h9 tk9 F9 N9 A9 T9 O9 d9; (have v9 := A9.1); (try k_sweep); (try dsimp only); (try k_fold))
  k_with "call ref" => (k_here; k_dflt (refine' con_useS (con_sint _ _ _ ?zzhq ?zzh0 ?zzh3) ?zzk1 ?zzk2 ?zzk3 ?zzk4 ?zzk5 ?zzkK ?zzkp ?zzkd ?zzku ?_; (case zzk1 => k_asm); (case zzk2 => k_asm); (case zzk3 => k_asm); (case zzk4 => k_asm); (case zzk5 => k_asm); (case zzkK => first | exact rfl | assumption); (case zzkp => first | exact SQ.keeps (by k_asm) (Fr.keep (by k_asm)) | exact AllR.sq (by k_asm) (by k_asm) (by k_asm) (by (first | with_reducible kcf_m | kcf_m)) (AllR.mono (by k_asm) (by (first | with_reducible kcf_all | kcf_all)))); (case zzkd => (first | exact room_lt hdp (by rfl) | exact room_lt0 hdp | exact lt_ble (by rfl) | ktr_room)); (case zzku => (first | exact unit_lt hun (by rfl) | exact lt_ble (by rfl) | ktr_units)); (case zzhq => assumption); (case zzh0 => omega); (case zzh3 => omega)); intro D9 n9 vs9 nx9 h9 tk9 F9 N9 A9 T9 O9 d9; (have v9 := A9.1); (try k_sweep); (try dsimp only); (try k_fold))
  k_with "call builtin:len" => (k_here; k_dflt (refine' len_S ?zzk1 ?zzk2 ?zzk3 ?_; (case zzk1 => k_asm); (case zzk2 => assumption); (case zzk3 => assumption)); (try dsimp only); (try k_fold))
  have La := P.keeps keep0
  have R2 := twoR w X'
  clear P
  unfold slogF at hq
  split at hq
  case isTrue => cases hq
  rename_i hbF
  have hbeg : begF as (1, 1) = true := by simpa using hbF
  clear hbF
  rw [if_neg (by omega)] at hq
  obtain ⟨d, hd1, hq⟩ := Option.bind_eq_some_iff.mp hq
  obtain ⟨hd1, hd2, hd3⟩ := chk_some hd1
  obtain ⟨i, hi1, hq⟩ := Option.bind_eq_some_iff.mp hq
  obtain ⟨hi1, hi2, hi3⟩ := chk_some hi1
  obtain ⟨p, hp1, hq⟩ := Option.bind_eq_some_iff.mp hq
  obtain ⟨hp1, hp2, hp3⟩ := chk_some hp1
  (try dsimp only)
  (try (with_reducible show wpAny _ _ _ _ _ _))
  (try k_fold)
  k_steps
  all_goals first
    | (exfalso; omega)
    | exact conEndS keep0 rfl (by k_asm) (by k_asm) List.mem_cons_self (fun p hp => List.mem_cons_of_mem _ (List.mem_append_left _ hp)) (by k_asm) (by k_asm)
end
section

theorem con_cut4 (a : Addr) (t : Tok) : Con 106 10 [.ref a, .int 4 t] (fun h => h.IsList a #[.ref 50]) (OutS (cutF 4)) := by
  unfold Con
  k_fill
  intro w mean mg mb dp un gd cn cs aa ccd cl outer A₀ base h₀ L m s Q E B F X T hk P hdp hun ret
  refine wpAny_call ?_
  k_dflt (refine' code_con [(Str.ofString "a", .ref a), (Str.ofString "order", .int 4 t)] ?k1 ?k2 ?k3 ?k5 ?kA ?kF ?kK ?k6 ?k7 ?k8 ?k9 ?kB ret ?_ ?c2 ?c3 ?c4 ?c5; (case kA => exact rfl); (case kF => exact rfl); (case kK => assumption); (case k1 => k_asm); (case k2 => k_asm); (case k3 => k_asm); (case k5 => k_asm); (case k6 => k_is); (case k7 => k_is); (case k8 => (first | exact room_lt hdp (by rfl) | exact room_lt0 hdp | exact lt_ble (by rfl) | ktr_room)); (case k9 => exact BindsTo.of_eq rfl); (case c5 => decide); (case kB => exact locs rfl); (case c2 => exact rfl); (case c3 => exact rfl); (case c4 => exact rfl); k_whole; intro g' L' h' tk0 F' N' B' X' T' keep0; (try dsimp only))
  clear ret B F T
  (try simp only [List.reverse_cons, List.reverse_nil, List.nil_append, List.cons_append, kstB] at F')
  k_with_none
  k_with "binaryOp Mult ref int" => (k_here; k_dflt (refine' mul_R ?zzk1 ?zzk2 ?zzk3 ?zzk4 ?zzk5 ?_; (case zzk1 => k_asm); (case zzk2 => k_asm); (case zzk3 => (first | with_reducible kcf_m | kcf_m)); (case zzk4 => first | assumption | omega | decide); (case zzk5 => first | assumption | omega | decide)); intro D9 h9 F9 N9 l9; (try k_sweep); (try dsimp only); (try k_fold))
  k_with "binaryOp Add ref ref" => (k_here; k_dflt (refine' add_R ?zzk1 ?zzk2 ?zzk3 ?zzk4 ?zzk5 ?_; (case zzk1 => k_asm); (case zzk2 => k_asm); (case zzk3 => (first | with_reducible kcf_m | kcf_m)); (case zzk4 => (first | with_reducible kcf_m | kcf_m)); (case zzk5 => ((try simp only [List.length_cons, List.length_nil, List.length_append, List.length_replicate, List.length_drop]); first | assumption | exact lt_ble (by rfl) | omega))); intro D9 h9 F9 N9 l9; (try k_sweep); (try dsimp only); (try k_fold))
  have La := isList_keeps P keep0
  clear P
  (try dsimp only)
  (try (with_reducible show wpAny _ _ _ _ _ _))
  (try k_fold)
  k_steps
  exact conEndS keep0 rfl (by k_asm) (by k_asm) (by (first | with_reducible kcf_m | kcf_m)) (nt := []) (fun _ h => nomatch h) (AllR.cons (Or.inr (Or.inr ⟨rfl, rfl⟩)) (AllR.cons (Or.inr (Or.inl ⟨rfl, rfl⟩)) (AllR.cons (Or.inr (Or.inl ⟨rfl, rfl⟩)) (AllR.cons (Or.inr (Or.inl ⟨rfl, rfl⟩)) (AllR.nil))))) Tups.nil
theorem con_cut5 (a : Addr) (t : Tok) : Con 106 10 [.ref a, .int 5 t] (fun h => h.IsList a #[.ref 50]) (OutS (cutF 5)) := by
  unfold Con
  k_fill
  intro w mean mg mb dp un gd cn cs aa ccd cl outer A₀ base h₀ L m s Q E B F X T hk P hdp hun ret
  refine wpAny_call ?_
  k_dflt (refine' code_con [(Str.ofString "a", .ref a), (Str.ofString "order", .int 5 t)] ?k1 ?k2 ?k3 ?k5 ?kA ?kF ?kK ?k6 ?k7 ?k8 ?k9 ?kB ret ?_ ?c2 ?c3 ?c4 ?c5; (case kA => exact rfl); (case kF => exact rfl); (case kK => assumption); (case k1 => k_asm); (case k2 => k_asm); (case k3 => k_asm); (case k5 => k_asm); (case k6 => k_is); (case k7 => k_is); (case k8 => (first | exact room_lt hdp (by rfl) | exact room_lt0 hdp | exact lt_ble (by rfl) | ktr_room)); (case k9 => exact BindsTo.of_eq rfl); (case c5 => decide); (case kB => exact locs rfl); (case c2 => exact rfl); (case c3 => exact rfl); (case c4 => exact rfl); k_whole; intro g' L' h' tk0 F' N' B' X' T' keep0; (try dsimp only))
  clear ret B F T
  (try simp only [List.reverse_cons, List.reverse_nil, List.nil_append, List.cons_append, kstB] at F')
  k_with_none
  k_with "binaryOp Mult ref int" => (k_here; k_dflt (refine' mul_R ?zzk1 ?zzk2 ?zzk3 ?zzk4 ?zzk5 ?_; (case zzk1 => k_asm); (case zzk2 => k_asm); (case zzk3 => (first | with_reducible kcf_m | kcf_m)); (case zzk4 => first | assumption | omega | decide); (case zzk5 => first | assumption | omega | decide)); intro D9 h9 F9 N9 l9; (try k_sweep); (try dsimp only); (try k_fold))
  k_with "binaryOp Add ref ref" => (k_here; k_dflt (refine' add_R ?zzk1 ?zzk2 ?zzk3 ?zzk4 ?zzk5 ?_; (case zzk1 => k_asm); (case zzk2 => k_asm); (case zzk3 => (first | with_reducible kcf_m | kcf_m)); (case zzk4 => (first | with_reducible kcf_m | kcf_m)); (case zzk5 => ((try simp only [List.length_cons, List.length_nil, List.length_append, List.length_replicate, List.length_drop]); first | assumption | exact lt_ble (by rfl) | omega))); intro D9 h9 F9 N9 l9; (try k_sweep); (try dsimp only); (try k_fold))
  have La := isList_keeps P keep0
  clear P
  (try dsimp only)
  (try (with_reducible show wpAny _ _ _ _ _ _))
  (try k_fold)
  k_steps
  exact conEndS keep0 rfl (by k_asm) (by k_asm) (by (first | with_reducible kcf_m | kcf_m)) (nt := []) (fun _ h => nomatch h) (AllR.cons (Or.inr (Or.inr ⟨rfl, rfl⟩)) (AllR.cons (Or.inr (Or.inl ⟨rfl, rfl⟩)) (AllR.cons (Or.inr (Or.inl ⟨rfl, rfl⟩)) (AllR.cons (Or.inr (Or.inl ⟨rfl, rfl⟩)) (AllR.cons (Or.inr (Or.inl ⟨rfl, rfl⟩)) (AllR.nil)))))) Tups.nil
end

end

section
theorem con_cut (a : Addr) (t : Tok) {n : Nat} (hn : n = 4 ∨ n = 5) : Con 106 10 [.ref a, .int (n : Int) t] (fun h => h.IsList a #[.ref 50]) (OutS (cutF n)) := by
  rcases hn with rfl | rfl
  · exact con_cut4 a t
  · exact con_cut5 a t
section

theorem con_swp1 (a : Addr) (as qs : List Q2) (t : Tok) (hq : swpF as 1 = some qs) (h0 : as.length = 4 ∨ as.length = 5) :
    Con 177 60 [.ref a, .int 1 t] (fun h => SQ h a as) (OutS qs) := by
  unfold Con
  k_fill
  intro w mean mg mb dp un gd cn cs aa ccd cl outer A₀ base h₀ L m s Q E B F X T hk P hdp hun ret
  refine wpAny_call ?_
  k_dflt (refine' code_con [(Str.ofString "a", .ref a), (Str.ofString "many", .int 1 t)] ?k1 ?k2 ?k3 ?k5 ?kA ?kF ?kK ?k6 ?k7 ?k8 ?k9 ?kB ret ?_ ?c2 ?c3 ?c4 ?c5; (case kA => exact rfl); (case kF => exact rfl); (case kK => assumption); (case k1 => k_asm); (case k2 => k_asm); (case k3 => k_asm); (case k5 => k_asm); (case k6 => k_is); (case k7 => k_is); (case k8 => (first | exact room_lt hdp (by rfl) | exact room_lt0 hdp | exact lt_ble (by rfl) | ktr_room)); (case k9 => exact BindsTo.of_eq rfl); (case c5 => decide); (case kB => exact locs rfl); (case c2 => exact rfl); (case c3 => exact rfl); (case c4 => exact rfl); k_whole; intro g' L' h' tk0 F' N' B' X' T' keep0; (try dsimp only))
  clear ret B F T
  (try simp only [List.reverse_cons, List.reverse_nil, List.nil_append, List.cons_append, kstB] at F')
  k_with_none
  k_with "call ref" => (k_here; k_dflt (refine' con_useS (con_cut _ _ ?zzh0) ?zzk1 ?zzk2 ?zzk3 ?zzk4 ?zzk5 ?zzkK ?zzkp ?zzkd ?zzku ?_; (case zzk1 => k_asm); (case zzk2 => k_asm); (case zzk3 => k_asm); (case zzk4 => k_asm); (case zzk5 => k_asm); (case zzkK => first | exact rfl | assumption); (case zzkp => exact ⟨_, News.get (by k_asm) (by (first | with_reducible kcf_m | kcf_m)), rfl, _, rfl⟩); (case zzkd => (first | exact room_lt hdp (by rfl) | exact room_lt0 hdp | exact lt_ble (by rfl) | ktr_room)); (case zzku => (first | exact unit_lt hun (by rfl) | exact lt_ble (by rfl) | ktr_units)); (case zzh0 => omega)); intro D9 n9 vs9 nx9 h9 tk9 F9 N9 A9 T9 O9 d9; (have v9 := A9.1); (try k_sweep); (try dsimp only); (try k_fold))
  k_with "call ref" => (k_here; k_dflt (refine' con_useS (con_smul _ _ _ _ _ ?zzhq ?zzh3 ?zzh4) ?zzk1 ?zzk2 ?zzk3 ?zzk4 ?zzk5 ?zzkK ?zzkp ?zzkd ?zzku ?_; (case zzk1 => k_asm); (case zzk2 => k_asm); (case zzk3 => k_asm); (case zzk4 => k_asm); (case zzk5 => k_asm); (case zzkK => first | exact rfl | assumption); (case zzkp => refine ⟨?_, ?_⟩ <;> (first | exact SQ.keeps (by k_asm) (Fr.keep (by k_asm)) | exact AllR.sq (by k_asm) (by k_asm) (by k_asm) (by (first | with_reducible kcf_m | kcf_m)) (AllR.mono (by k_asm) (by (first | with_reducible kcf_all | kcf_all))))); (case zzkd => (first | exact room_lt hdp (by rfl) | exact room_lt0 hdp | exact lt_ble (by rfl) | ktr_room)); (case zzku => (first | exact unit_lt hun (by rfl) | exact lt_ble (by rfl) | ktr_units)); (case zzhq => assumption); (case zzh3 => omega); (case zzh4 => omega)); intro D9 n9 vs9 nx9 h9 tk9 F9 N9 A9 T9 O9 d9; (have v9 := A9.1); (try k_sweep); (try dsimp only); (try k_fold))
  k_with "call builtin:len" => (k_here; k_dflt (refine' len_S ?zzk1 ?zzk2 ?zzk3 ?_; (case zzk1 => k_asm); (case zzk2 => assumption); (case zzk3 => assumption)); (try dsimp only); (try k_fold))
  have La := P.keeps keep0
  have R2 := twoR w X'
  clear P
  have hcl : (cutF as.length).length < 64 := by simp [cutF]; omega
  have h3 : as.length < 64 := by omega
  simp only [swpF] at hq
  (try dsimp only)
  (try (with_reducible show wpAny _ _ _ _ _ _))
  (try k_fold)
  k_steps
  exact conEndSA keep0 rfl (by k_asm) (by k_asm) (by (first | with_reducible kcf_m | kcf_m)) (by k_asm) (by k_asm) (by (first | with_reducible kcf_all | kcf_all))
theorem con_swp2 (a : Addr) (as qs : List Q2) (t : Tok) (hq : swpF as 2 = some qs) (h0 : as.length = 4 ∨ as.length = 5) :
    Con 177 60 [.ref a, .int 2 t] (fun h => SQ h a as) (OutS qs) := by
  unfold Con
  k_fill
  intro w mean mg mb dp un gd cn cs aa ccd cl outer A₀ base h₀ L m s Q E B F X T hk P hdp hun ret
  refine wpAny_call ?_
  k_dflt (refine' code_con [(Str.ofString "a", .ref a), (Str.ofString "many", .int 2 t)] ?k1 ?k2 ?k3 ?k5 ?kA ?kF ?kK ?k6 ?k7 ?k8 ?k9 ?kB ret ?_ ?c2 ?c3 ?c4 ?c5; (case kA => exact rfl); (case kF => exact rfl); (case kK => assumption); (case k1 => k_asm); (case k2 => k_asm); (case k3 => k_asm); (case k5 => k_asm); (case k6 => k_is); (case k7 => k_is); (case k8 => (first | exact room_lt hdp (by rfl) | exact room_lt0 hdp | exact lt_ble (by rfl) | ktr_room)); (case k9 => exact BindsTo.of_eq rfl); (case c5 => decide); (case kB => exact locs rfl); (case c2 => exact rfl); (case c3 => exact rfl); (case c4 => exact rfl); k_whole; intro g' L' h' tk0 F' N' B' X' T' keep0; (try dsimp only))
  clear ret B F T
  (try simp only [List.reverse_cons, List.reverse_nil, List.nil_append, List.cons_append, kstB] at F')
  k_with_none
  k_with "call ref" => (k_here; k_dflt (refine' con_useS (con_cut _ _ ?zzh0) ?zzk1 ?zzk2 ?zzk3 ?zzk4 ?zzk5 ?zzkK ?zzkp ?zzkd ?zzku ?_; (case zzk1 => k_asm); (case zzk2 => k_asm); (case zzk3 => k_asm); (case zzk4 => k_asm); (case zzk5 => k_asm); (case zzkK => first | exact rfl | assumption); (case zzkp => exact ⟨_, News.get (by k_asm) (by (first | with_reducible kcf_m | kcf_m)), rfl, _, rfl⟩); (case zzkd => (first | exact room_lt hdp (by rfl) | exact room_lt0 hdp | exact lt_ble (by rfl) | ktr_room)); (case zzku => (first | exact unit_lt hun (by rfl) | exact lt_ble (by rfl) | ktr_units)); (case zzh0 => omega)); intro D9 n9 vs9 nx9 h9 tk9 F9 N9 A9 T9 O9 d9; (have v9 := A9.1); (try k_sweep); (try dsimp only); (try k_fold))
  k_with "call ref" => (k_here; k_dflt (refine' con_useS (con_smul _ _ _ _ _ ?zzhq ?zzh3 ?zzh4) ?zzk1 ?zzk2 ?zzk3 ?zzk4 ?zzk5 ?zzkK ?zzkp ?zzkd ?zzku ?_; (case zzk1 => k_asm); (case zzk2 => k_asm); (case zzk3 => k_asm); (case zzk4 => k_asm); (case zzk5 => k_asm); (case zzkK => first | exact rfl | assumption); (case zzkp => refine ⟨?_, ?_⟩ <;> (first | exact SQ.keeps (by k_asm) (Fr.keep (by k_asm)) | exact AllR.sq (by k_asm) (by k_asm) (by k_asm) (by (first | with_reducible kcf_m | kcf_m)) (AllR.mono (by k_asm) (by (first | with_reducible kcf_all | kcf_all))))); (case zzkd => (first | exact room_lt hdp (by rfl) | exact room_lt0 hdp | exact lt_ble (by rfl) | ktr_room)); (case zzku => (first | exact unit_lt hun (by rfl) | exact lt_ble (by rfl) | ktr_units)); (case zzhq => assumption); (case zzh3 => omega); (case zzh4 => omega)); intro D9 n9 vs9 nx9 h9 tk9 F9 N9 A9 T9 O9 d9; (have v9 := A9.1); (try k_sweep); (try dsimp only); (try k_fold))
  k_with "call builtin:len" => (k_here; k_dflt (refine' len_S ?zzk1 ?zzk2 ?zzk3 ?_; (case zzk1 => k_asm); (case zzk2 => assumption); (case zzk3 => assumption)); (try dsimp only); (try k_fold))
  have La := P.keeps keep0
  have R2 := twoR w X'
  clear P
  have hcl : (cutF as.length).length < 64 := by simp [cutF]; omega
  have h3 : as.length < 64 := by omega
  simp only [swpF] at hq
  obtain ⟨b2, hb2, hq⟩ := Option.bind_eq_some_iff.mp hq
  obtain ⟨hb2, hb2a, hb2b⟩ := chk_some hb2
  (try dsimp only)
  (try (with_reducible show wpAny _ _ _ _ _ _))
  (try k_fold)
  k_steps
  exact conEndSA keep0 rfl (by k_asm) (by k_asm) (by (first | with_reducible kcf_m | kcf_m)) (by k_asm) (by k_asm) (by (first | with_reducible kcf_all | kcf_all))
theorem con_swp3 (a : Addr) (as qs : List Q2) (t : Tok) (hq : swpF as 3 = some qs) (h0 : as.length = 4 ∨ as.length = 5) :
    Con 177 60 [.ref a, .int 3 t] (fun h => SQ h a as) (OutS qs) := by
  unfold Con
  k_fill
  intro w mean mg mb dp un gd cn cs aa ccd cl outer A₀ base h₀ L m s Q E B F X T hk P hdp hun ret
  refine wpAny_call ?_
  k_dflt (refine' code_con [(Str.ofString "a", .ref a), (Str.ofString "many", .int 3 t)] ?k1 ?k2 ?k3 ?k5 ?kA ?kF ?kK ?k6 ?k7 ?k8 ?k9 ?kB ret ?_ ?c2 ?c3 ?c4 ?c5; (case kA => exact rfl); (case kF => exact rfl); (case kK => assumption); (case k1 => k_asm); (case k2 => k_asm); (case k3 => k_asm); (case k5 => k_asm); (case k6 => k_is); (case k7 => k_is); (case k8 => (first | exact room_lt hdp (by rfl) | exact room_lt0 hdp | exact lt_ble (by rfl) | ktr_room)); (case k9 => exact BindsTo.of_eq rfl); (case c5 => decide); (case kB => exact locs rfl); (case c2 => exact rfl); (case c3 => exact rfl); (case c4 => exact rfl); k_whole; intro g' L' h' tk0 F' N' B' X' T' keep0; (try dsimp only))
  clear ret B F T
  (try simp only [List.reverse_cons, List.reverse_nil, List.nil_append, List.cons_append, kstB] at F')
  k_with_none
  k_with "call ref" => (k_here; k_dflt (refine' con_useS (con_cut _ _ ?zzh0) ?zzk1 ?zzk2 ?zzk3 ?zzk4 ?zzk5 ?zzkK ?zzkp ?zzkd ?zzku ?_; (case zzk1 => k_asm); (case zzk2 => k_asm); (case zzk3 => k_asm); (case zzk4 => k_asm); (case zzk5 => k_asm); (case zzkK => first | exact rfl | assumption); (case zzkp => exact ⟨_, News.get (by k_asm) (by (first | with_reducible kcf_m | kcf_m)), rfl, _, rfl⟩); (case zzkd => (first | exact room_lt hdp (by rfl) | exact room_lt0 hdp | exact lt_ble (by rfl) | ktr_room)); (case zzku => (first | exact unit_lt hun (by rfl) | exact lt_ble (by rfl) | ktr_units)); (case zzh0 => omega)); intro D9 n9 vs9 nx9 h9 tk9 F9 N9 A9 T9 O9 d9; (have v9 := A9.1); (try k_sweep); (try dsimp only); (try k_fold))
  k_with "call ref" => (k_here; k_dflt (refine' con_useS (con_smul _ _ _ _ _ ?zzhq ?zzh3 ?zzh4) ?zzk1 ?zzk2 ?zzk3 ?zzk4 ?zzk5 ?zzkK ?zzkp ?zzkd ?zzku ?_; (case zzk1 => k_asm); (case zzk2 => k_asm); (case zzk3 => k_asm); (case zzk4 => k_asm); (case zzk5 => k_asm); (case zzkK => first | exact rfl | assumption); (case zzkp => refine ⟨?_, ?_⟩ <;> (first | exact SQ.keeps (by k_asm) (Fr.keep (by k_asm)) | exact AllR.sq (by k_asm) (by k_asm) (by k_asm) (by (first | with_reducible kcf_m | kcf_m)) (AllR.mono (by k_asm) (by (first | with_reducible kcf_all | kcf_all))))); (case zzkd => (first | exact room_lt hdp (by rfl) | exact room_lt0 hdp | exact lt_ble (by rfl) | ktr_room)); (case zzku => (first | exact unit_lt hun (by rfl) | exact lt_ble (by rfl) | ktr_units)); (case zzhq => assumption); (case zzh3 => omega); (case zzh4 => omega)); intro D9 n9 vs9 nx9 h9 tk9 F9 N9 A9 T9 O9 d9; (have v9 := A9.1); (try k_sweep); (try dsimp only); (try k_fold))
  k_with "call builtin:len" => (k_here; k_dflt (refine' len_S ?zzk1 ?zzk2 ?zzk3 ?_; (case zzk1 => k_asm); (case zzk2 => assumption); (case zzk3 => assumption)); (try dsimp only); (try k_fold))
  have La := P.keeps keep0
  have R2 := twoR w X'
  clear P
  have hcl : (cutF as.length).length < 64 := by simp [cutF]; omega
  have h3 : as.length < 64 := by omega
  simp only [swpF] at hq
  obtain ⟨b1, hb1, hq⟩ := Option.bind_eq_some_iff.mp hq
  obtain ⟨hb1, hb1a, hb1b⟩ := chk_some hb1
  obtain ⟨b2, hb2, hq⟩ := Option.bind_eq_some_iff.mp hq
  obtain ⟨hb2, hb2a, hb2b⟩ := chk_some hb2
  (try dsimp only)
  (try (with_reducible show wpAny _ _ _ _ _ _))
  (try k_fold)
  k_steps
  exact conEndSA keep0 rfl (by k_asm) (by k_asm) (by (first | with_reducible kcf_m | kcf_m)) (by k_asm) (by k_asm) (by (first | with_reducible kcf_all | kcf_all))
end

end

section
noncomputable def rowStep (size : Nat) (sec : Bool) (n : Int) (last : List Int) : List Int :=
  (rangeKs 0 size).map fun k => (if 0 < k then last.getD (k - 1).toNat 0 else 0) + (if sec = true then k else 1 - n) * last.getD k.toNat 0
noncomputable def rowsF (size : Nat) (sec : Bool) (n : Int) (rows : List (List Int)) : Option (List (List Int)) :=
  if (rows.length : Int) = n ∧ (rows.getD (n - 1).toNat []).length = size then some (rows ++ [rowStep size sec n (rows.getD (n - 1).toNat [])]) else none
noncomputable def rowsO (size : Nat) (sec : Bool) : Option (List (List Int)) := loopO (rowsF size sec) (size - 1) 1 [1 :: List.replicate (size - 1) 0]
/-- values that bear rows of ints by the ledger -/
noncomputable def AllI (nx : List (Addr × Obj)) (vs : List Value) (rows : List (List Int)) : Prop :=
  vs.length = rows.length ∧ ∀ k : Int, 0 ≤ k → k < rows.length → ∃ b ws n, vs[k.toNat]? = some (.ref b) ∧ (b, listOf (List.toArray ws) n) ∈ nx ∧ IntsAre ws (rows.getD k.toNat [])
theorem AllI.mono {nx nx' : List (Addr × Obj)} {vs : List Value} {rows : List (List Int)} (h : AllI nx vs rows) (k : ∀ p ∈ nx, p ∈ nx') : AllI nx' vs rows :=
  ⟨h.1, fun i h0 h1 => let ⟨b, ws, n, e, m, x⟩ := h.2 i h0 h1; ⟨b, ws, n, e, k _ m, x⟩⟩
theorem AllI.snoc {nx : List (Addr × Obj)} {vs : List Value} {rows : List (List Int)} {b : Addr} {ws : List Value} {n : Nat} {row : List Int} (h : AllI nx vs rows) (hm : (b, listOf ws.toArray n) ∈ nx) (x : IntsAre ws row) : AllI nx (vs ++ [Value.ref b]) (rows ++ [row]) := by
  refine ⟨by simp [h.1], fun k h0 h1 => ?_⟩
  rw [List.length_append, List.length_singleton] at h1
  by_cases hk : k < rows.length
  · obtain ⟨c, ws', n', e, m, y⟩ := h.2 k h0 hk
    refine ⟨c, ws', n', ?_, m, ?_⟩
    · rw [List.getElem?_append_left (by have := h.1; omega)]; exact e
    · rw [List.getD_eq_getElem?_getD] at y ⊢; rw [List.getElem?_append_left (by omega)]; exact y
  · have hk' : k.toNat = vs.length := by have := h.1; omega
    refine ⟨b, ws, n, by rw [hk']; simp, hm, ?_⟩
    rw [List.getD_eq_getElem?_getD, List.getElem?_append_right (by have := h.1; omega)]
    have : k.toNat - rows.length = 0 := by have := h.1; omega
    rw [this]; exact x
theorem ints_rep {t : Tok} : ∀ n : Nat, IntsAre (List.replicate n (Value.int 0 t)) (List.replicate n 0)
  | 0 => .nil
  | n + 1 => .cons 0 t (ints_rep n)
/-- rows that are lists, off D -/
noncomputable def Lists (D : Addr) (st : List (Addr × Obj)) : Prop := ∀ p ∈ st, (∃ its n, p.2 = listOf its n) ∧ p.1 ≠ D
/-- what a def hands back: new rows -/
noncomputable def OutI (rows : List (List Int)) (h h' : Heap) (r : Value) : Prop := ∃ D n vs nx, r = .ref D ∧ AllI nx vs rows ∧ (h.get? D = none ∧ h'.get? D = some (listOf vs.toArray n)) ∧ ∀ p ∈ nx, (h.get? p.1 = none ∧ h'.get? p.1 = some p.2) ∧ p.1 ≠ D
section
variable {prog : Program} {w : World} {A : Around} {E : Value → Shared → Prop} {s : Shared} {env : Env} {h₀ : Heap} {Q : Flow → Shared → Prop} {target : Expr} {body : List Stmt} {I : Addr} {a : Int} {n : Nat}
theorem cellRest_of (J : Nat → (Str → Option Value) → List (Addr × Obj) → Prop)
    (turn : ∀ i m nx t h tk, i < n → J i m nx → Fr h₀ env.locals h m → News h₀ env.locals h ((I, itR (a + ((i + 1 : Nat) : Int)) ((n : Int) - ((i + 1 : Nat) : Int))) :: nx) →
      wpAny (model prog w) A (assign target env (.int (a + (i : Int)) t)) (fun _ s₂ => wpAny (model prog w) A (execs body env)
        (UnrPost h₀ env.locals { s with heap := h, toks := tk } I (itR (a + ((i + 1 : Nat) : Int)) ((n : Int) - ((i + 1 : Nat) : Int))) (J (i + 1)) Q) E s₂) E { s with heap := h, toks := tk })
    (done : ∀ m nx h tk, J n m nx → Fr h₀ env.locals h m → News h₀ env.locals h nx → Q .next { s with heap := h, toks := tk }) :
    ∀ k i m news, i + k = n → J i m news → CellRest prog w A E h₀ env target body Q s I a n k i m news := by
  intro k
  induction k with
  | zero =>
    intro i m news hi hJ
    have : i = n := by omega
    subst this
    exact CellRest.zero fun h tk F N => done m news h tk hJ F N
  | succ k ih =>
    intro i m news hi hJ
    refine CellRest.succ fun t h tk F N => wpAny_mono (turn i m news t h tk (by omega) hJ F N) (fun _ s₂ z => wpAny_mono z (fun f s₃ p => ?_) fun _ _ e => e) fun _ _ e => e
    have up : UnrEnd h₀ env.locals { s with heap := h, toks := tk } I (itR (a + ((i + 1 : Nat) : Int)) ((n : Int) - ((i + 1 : Nat) : Int))) (J (i + 1)) s₃ →
        UnrEnd h₀ env.locals { s with heap := h, toks := tk } I (itR (a + ((i + 1 : Nat) : Int)) ((n : Int) - ((i + 1 : Nat) : Int))) (CellRest prog w A E h₀ env target body Q s I a n k (i + 1)) s₃ := by
      rintro ⟨h', tk', m', nx', e, F', N', off, j⟩
      exact ⟨h', tk', m', nx', e, F', N', off, ih (i + 1) m' nx' (by omega) j⟩
    cases f with
    | ret v => exact p
    | brk => exact p
    | next => exact up p
    | cont => exact up p
end
theorem store_C {M : Model} {A : Around} {E : Value → Shared → Prop} {s : Shared} {h₀ : Heap} {L a : Addr} {m : Str → Option Value} {cn : Str} {cs : Scope} {ccd : Value} {cl : List (Str × Addr)} {x : Str} {v : Value} {Q : Unit → Shared → Prop} {c : Addr} {o : Obj} {v₀ : Option Value} (pre post : List (Addr × Obj))
    (F : Fr h₀ L s.heap m) (N : News h₀ L s.heap (pre ++ (c, o) :: post)) (hc : cl.lookup x = some c) (h1 : ∀ p ∈ pre, p.1 ≠ c) (h2 : ∀ p ∈ post, p.1 ≠ c) (hd : o.data = .cell v₀)
    (h : ∀ h' o', Fr h₀ L h' m → News h₀ L h' (pre ++ (c, o') :: post) → o'.data = .cell (some v) → Q () { s with heap := h' })
    (hk : cs.kind = .function := by rfl) (hx : (envX cn cs L a ccd cl).kindOf x = some .cell := by rfl) : wpAny M A (storeName (envX cn cs L a ccd cl) x v) Q E s := by
  have hmem := N (c, o) (List.mem_append_right _ List.mem_cons_self)
  refine wpAny_storeName_cell hk hx hc ⟨o, hmem.1, hd⟩ fun h' hv hs => ?_
  obtain ⟨o', ho', hd'⟩ := hv
  exact h h' o' (F.change hs hmem.2.1 hmem.2.2) (N.setAt h1 h2 hs ho') hd'
theorem cell_off {g h : Heap} {L c : Addr} {o : Obj} {all : List (Addr × Obj)} {v : Option Value} (N : News g L h all) (hm : (c, o) ∈ all) (hd : o.data = .cell v) {p : Addr × Obj} (hp : p ∈ all) {its : Array Value} {n : Nat} (e : p.2 = listOf its n) : p.1 ≠ c := fun e1 => by
  have h1 := (N p hp).1
  have h2 : h.get? c = some o := (N _ hm).1
  rw [e1, h2] at h1
  rw [Option.some.inj h1, e] at hd
  cases hd
theorem cell_offR {g h : Heap} {L c : Addr} {o : Obj} {all : List (Addr × Obj)} {v : Option Value} (N : News g L h all) (hm : (c, o) ∈ all) (hd : o.data = .cell v) {I : Addr} {x y : Int} (hp : (I, itR x y) ∈ all) : I ≠ c := fun e1 => by
  have h1 : h.get? I = some (itR x y) := (N _ hp).1
  have h2 : h.get? c = some o := (N _ hm).1
  rw [e1, h2] at h1
  rw [Option.some.inj h1] at hd
  cases hd
theorem sub_I {prog : Program} {w : World} {A : Around} {E : Value → Shared → Prop} {s : Shared} {value slice : Expr} {l : Addr} {rows : List (List Int)} {k : Int} {u : Tok} {g : Heap} {L : Addr} {Q : Value → Shared → Prop} {news : List (Addr × Obj)} {vs : List Value} {n : Nat}
    {nt : List (Addr × Obj)} (N : News g L s.heap news) (hm : (l, listOf vs.toArray n) ∈ news) (hA : AllI nt vs rows) (h0 : 0 ≤ k) (h1 : k < rows.length) (h2 : k < 2 ^ 63)
    (h : ∀ b ws n, (b, listOf (List.toArray ws) n) ∈ nt → IntsAre ws (rows.getD k.toNat []) → Q (.ref b) s)
    (hs : subscripted slice false (.ref l) (.int k u) = operate [.ref l, .int k u] (getItem (.ref l) (.int k u)) := by with_unfolding_all rfl) :
    wpAny (model prog w) A (subscriptTail value slice (.ref l) (.int k u)) Q E s := by
  obtain ⟨b, ws, n', e, hm', hi⟩ := hA.2 k h0 h1
  have hl' : s.heap.IsList l vs.toArray := ⟨_, N.get hm, rfl, _, rfl⟩
  exact tail_any hl'.typeIs slot_list_getitem.lookup (wpAny_getItem_list hl' h0 h2 (by simpa using e) (h b ws n' hm' hi)) hs
section
variable {prog : Program} {w : World} {A : Around} {E : Value → Shared → Prop} {s : Shared} {env : Env} {h₀ : Heap} {Q : Flow → Shared → Prop} {target : Expr} {body : List Stmt} {m : Str → Option Value} {c1 c2 c3 DR : Addr} {os : Obj}
noncomputable def NumPost (h₀ : Heap) (L : Addr) (m : Str → Option Value) (c1 c2 c3 DR : Addr) (os : Obj) (rc' : List (List Int)) (I : Addr) (x y : Int) (s₁ : Shared) (Q : Flow → Shared → Prop) (f : Flow) (s₂ : Shared) : Prop :=
  match f with
  | .ret v => Q (.ret v) s₂
  | .brk => Q .next s₂
  | _ => ∃ h' tk' vs nn nt ol on, s₂ = { s₁ with heap := h', toks := tk' } ∧ Fr h₀ L h' m ∧ News h₀ L h' ((I, itR x y) :: (c3, ol) :: (c2, on) :: (c1, os) :: (DR, listOf (List.toArray vs) nn) :: nt) ∧ AllI nt vs rc' ∧ Lists DR nt ∧ (∃ v, ol.data = .cell v) ∧ ∃ v, on.data = .cell v
theorem list_offR {g h : Heap} {L : Addr} {all : List (Addr × Obj)} {I : Addr} {x y : Int} (N : News g L h all) (hI : (I, itR x y) ∈ all) {p : Addr × Obj} (hp : p ∈ all) {its : Array Value} {n : Nat} (e : p.2 = listOf its n) : p.1 ≠ I := fun e1 => by
  have h1 := (N p hp).1
  have h2 : h.get? I = some (itR x y) := (N _ hI).1
  rw [e1, h2, e] at h1
  have h3 : Data.fields #[rawInt x, rawInt y, rawInt 1] = Data.seq its n := congrArg Obj.data (Option.some.inj h1)
  cases h3
theorem num_src (size : Nat) (sec : Bool) {rows : List (List Int)} (hr : rowsO size sec = some rows) (hs0 : 1 ≤ size) (hs1 : size < 64) {r D0 : Addr} {t₀ u₀ v₀ t1 t0 : Tok} {n0 n1 : Nat} {all : List (Addr × Obj)} {ol on : Obj} {k : Nat} {vl vn : Option Value}
    (hh : A.handled = none) (hR : IsRange s.heap r 1 (size : Int) 1 t₀ u₀ v₀) (F : Fr h₀ env.locals s.heap m) (N : News h₀ env.locals s.heap all)
    (g1 : (DR, listOf [Value.ref D0].toArray n0) ∈ all) (g2 : (D0, listOf (Value.int 1 t1 :: List.replicate k (Value.int 0 t0)).toArray n1) ∈ all) (hk : k = size - 1) (g3 : (c3, ol) ∈ all) (g4 : (c2, on) ∈ all) (g5 : (c1, os) ∈ all)
    (dl : ol.data = .cell vl) (dn : on.data = .cell vn) {v1 : Option Value} (ds : os.data = .cell v1)
    (turn : ∀ (i : Nat) t rc rc' vs nn nt ol on I x y gg h tk, i < size - 1 → rowsF size sec (1 + (i : Int)) rc = some rc' → AllI nt vs rc → Lists DR nt → (∃ v, ol.data = .cell v) → (∃ v, on.data = .cell v) → Fr h₀ env.locals h m →
      News h₀ env.locals h ((I, itR x y) :: (c3, ol) :: (c2, on) :: (c1, os) :: (DR, listOf (List.toArray vs) nn) :: nt) →
      wpAny (model prog w) A (assign target env (.int (1 + (i : Int)) t)) (fun _ s₂ => wpAny (model prog w) A (execs body env) (NumPost h₀ env.locals m c1 c2 c3 DR os rc' I x y { { s with heap := gg } with heap := h, toks := tk } Q) E s₂) E { { s with heap := gg } with heap := h, toks := tk })
    (done : ∀ vs nn nt ol on gg h tk, AllI nt vs rows → Lists DR nt → Fr h₀ env.locals h m → News h₀ env.locals h ((c3, ol) :: (c2, on) :: (c1, os) :: (DR, listOf (List.toArray vs) nn) :: nt) → Q .next { { s with heap := gg } with heap := h, toks := tk }) :
    CellSrc prog w A E h₀ env target body Q (.ref r) s := by
  have hne : D0 ≠ DR := fun e => by
    have h1 : s.heap.get? DR = some (listOf [Value.ref D0].toArray n0) := (N _ g1).1
    have h2 : s.heap.get? D0 = some (listOf (Value.int 1 t1 :: List.replicate k (Value.int 0 t0)).toArray n1) := (N _ g2).1
    rw [e, h1] at h2
    have h3 : Data.seq [Value.ref D0].toArray n0 = Data.seq (Value.int 1 t1 :: List.replicate k (Value.int 0 t0)).toArray n1 := congrArg Obj.data (Option.some.inj h2)
    simp at h3
  refine CellSrc.intro (n := size - 1) (news := (c3, ol) :: (c2, on) :: (c1, os) :: (DR, listOf [Value.ref D0].toArray n0) :: [(D0, listOf (Value.int 1 t1 :: List.replicate k (Value.int 0 t0)).toArray n1)]) hh hR (small_one (by omega) (by omega) (by omega) (by omega)) (by rw [rangeSize_nat]; omega) F (fun p hp => ?_) fun I gg lI => ?_
  · simp only [List.mem_cons, List.not_mem_nil, or_false] at hp
    rcases hp with rfl | rfl | rfl | rfl | rfl
    · exact N _ g3
    · exact N _ g4
    · exact N _ g5
    · exact N _ g1
    · exact N _ g2
  · refine cellRest_of (fun i m' nx => m' = m ∧ ∃ rc vs nn nt ol on, loopO (rowsF size sec) (size - 1 - i) (1 + (i : Int)) rc = some rows ∧ nx = (c3, ol) :: (c2, on) :: (c1, os) :: (DR, listOf (List.toArray vs) nn) :: nt ∧ AllI nt vs rc ∧ Lists DR nt ∧ (∃ v, ol.data = .cell v) ∧ ∃ v, on.data = .cell v) ?_ ?_ _ _ _ _ (by omega)
      ⟨rfl, _, _, _, _, _, _, by simpa [rowsO] using hr, rfl, ?_, ?_, ⟨_, dl⟩, ⟨_, dn⟩⟩
    · rintro i m' nx t h tk hi ⟨rfl, rc, vs, nn, nt, ol, on, hl, rfl, hA, hL, hol, hon⟩ F₁ N₁
      obtain ⟨j, hj⟩ : ∃ j, size - 1 - i = j + 1 := sub_succ hi
      rw [hj] at hl
      simp only [loopO] at hl
      obtain ⟨rc', hc, hl⟩ := Option.bind_eq_some_iff.mp hl
      refine wpAny_mono (turn i t rc rc' vs nn nt ol on I _ _ gg h tk hi hc hA hL hol hon F₁ N₁) (fun _ s₂ z => wpAny_mono z (fun f s₃ p => ?_) fun _ _ e => e) fun _ _ e => e
      have up : (∃ h' tk' vs nn nt ol on, s₃ = { { { s with heap := gg } with heap := h, toks := tk } with heap := h', toks := tk' } ∧ Fr h₀ env.locals h' m' ∧ News h₀ env.locals h' ((I, itR (1 + ((i + 1 : Nat) : Int)) (((size - 1 : Nat) : Int) - ((i + 1 : Nat) : Int))) :: (c3, ol) :: (c2, on) :: (c1, os) :: (DR, listOf (List.toArray vs) nn) :: nt) ∧ AllI nt vs rc' ∧ Lists DR nt ∧ (∃ v, ol.data = .cell v) ∧ ∃ v, on.data = .cell v) →
          UnrEnd h₀ env.locals { { s with heap := gg } with heap := h, toks := tk } I (itR (1 + ((i + 1 : Nat) : Int)) (((size - 1 : Nat) : Int) - ((i + 1 : Nat) : Int)))
            (fun m'' nx => m'' = m' ∧ ∃ rc vs nn nt ol on, loopO (rowsF size sec) (size - 1 - (i + 1)) (1 + ((i + 1 : Nat) : Int)) rc = some rows ∧ nx = (c3, ol) :: (c2, on) :: (c1, os) :: (DR, listOf (List.toArray vs) nn) :: nt ∧ AllI nt vs rc ∧ Lists DR nt ∧ (∃ v, ol.data = .cell v) ∧ ∃ v, on.data = .cell v) s₃ := by
        rintro ⟨h', tk', vs', nn', nt', ol', on', rfl, F', N', hA', hL', ⟨vl', hol'⟩, ⟨vn', hon'⟩⟩
        refine ⟨h', tk', m', _, rfl, F', N', fun p hp => ?_, rfl, rc', vs', nn', nt', ol', on', ?_, rfl, hA', hL', ⟨_, hol'⟩, ⟨_, hon'⟩⟩
        · simp only [List.mem_cons] at hp
          have mI : (I, itR (1 + ((i + 1 : Nat) : Int)) (((size - 1 : Nat) : Int) - ((i + 1 : Nat) : Int))) ∈ (I, itR (1 + ((i + 1 : Nat) : Int)) (((size - 1 : Nat) : Int) - ((i + 1 : Nat) : Int))) :: (c3, ol') :: (c2, on') :: (c1, os) :: (DR, listOf (List.toArray vs') nn') :: nt' := List.mem_cons_self
          rcases hp with rfl | rfl | rfl | rfl | hp
          · exact (cell_offR N' (by (first | with_reducible kcf_m | kcf_m)) hol' mI).symm
          · exact (cell_offR N' (by (first | with_reducible kcf_m | kcf_m)) hon' mI).symm
          · exact (cell_offR N' (by (first | with_reducible kcf_m | kcf_m)) ds mI).symm
          · exact list_offR N' mI (by (first | with_reducible kcf_m | kcf_m)) rfl
          · obtain ⟨⟨its, n', e⟩, _⟩ := hL' p hp
            exact list_offR N' mI (by (first | with_reducible kcf_m | kcf_m)) e
        · rw [show size - 1 - (i + 1) = j by omega, show (1 : Int) + ((i + 1 : Nat) : Int) = 1 + (i : Int) + 1 by omega]
          exact hl
      cases f with
      | ret v => exact p
      | brk => exact p
      | next => exact up p
      | cont => exact up p
    · rintro m' nx h tk ⟨rfl, rc, vs, nn, nt, ol, on, hl, rfl, hA, hL, _, _⟩ F₁ N₁
      rw [Nat.sub_self] at hl
      have e : rc = rows := Option.some.inj hl
      subst e
      exact done vs nn nt ol on gg h tk hA hL F₁ N₁
    · refine ⟨rfl, fun k0 h0 h1 => ⟨D0, _, _, ?_, List.mem_singleton.mpr rfl, ?_⟩⟩
      · have : k0 = 0 := by simp at h1; omega
        subst this; rfl
      · have : k0 = 0 := by simp at h1; omega
        subst this
        rw [← hk]
        exact .cons 1 t1 (ints_rep k)
    · intro p hp
      rw [List.mem_singleton.mp hp]
      exact ⟨⟨_, _, rfl⟩, hne⟩
theorem num_end {h₀ h h' : Heap} {L : Addr} {Q : Flow → Shared → Prop} {m : Str → Option Value} {c1 c2 c3 DR I D : Addr} {ol on os : Obj} {x y : Int} {vs : List Value} {ws : List Value} {nn : Nat} {nt all : List (Addr × Obj)} {rc : List (List Int)} {row : List Int} {vl vn v1 : Option Value} {s₁ s₂ : Shared} {tk' : Nat}
    (N₀ : ∀ q ∈ all, ∃ z, h.get? q.1 = some z ∧ z = q.2) (ha : all = (D, LCg.lst ws) :: (I, itR x y) :: (c3, ol) :: (c2, on) :: (c1, os) :: (DR, listOf (List.toArray vs) nn) :: nt)
    (hA : AllI nt vs rc) (hL : Lists DR nt) (hi : IntsAre ws row) (dl : ol.data = .cell vl) (dn : on.data = .cell vn) (ds : os.data = .cell v1) (hD : D ≠ DR)
    (hs : s₂ = { s₁ with heap := h', toks := tk' }) (F : Fr h₀ L h' m) (N : News h₀ L h' ((DR, listOf (List.toArray (vs ++ [Value.ref D])) (nn + 1)) :: but DR all)) :
    NumPost h₀ L m c1 c2 c3 DR os (rc ++ [row]) I x y s₁ Q .next s₂ := by
  have hDR : h.get? DR = some (listOf (List.toArray vs) nn) := by
    obtain ⟨z, e1, e2⟩ := N₀ (DR, listOf (List.toArray vs) nn) (by rw [ha]; (first | with_reducible kcf_m | kcf_m))
    rw [e1, e2]
  have offc : ∀ (c : Addr) (o : Obj) (v : Option Value), (c, o) ∈ all → o.data = .cell v → c ≠ DR := fun c o v hm hd e => by
    obtain ⟨z, e1, e2⟩ := N₀ _ hm
    subst e
    rw [hDR] at e1
    have h3 : W.listOf (List.toArray vs) nn = o := (Option.some.inj e1).trans e2
    rw [← h3] at hd
    cases hd
  have offI : I ≠ DR := fun e => by
    obtain ⟨z, e1, e2⟩ := N₀ (I, itR x y) (by rw [ha]; (first | with_reducible kcf_m | kcf_m))
    subst e
    rw [hDR] at e1
    have h3 : Data.seq (List.toArray vs) nn = Data.fields #[rawInt x, rawInt y, rawInt 1] := congrArg Obj.data ((Option.some.inj e1).trans e2)
    cases h3
  have m3 : (c3, ol) ∈ all := by rw [ha]; (first | with_reducible kcf_m | kcf_m)
  have m2 : (c2, on) ∈ all := by rw [ha]; (first | with_reducible kcf_m | kcf_m)
  have m1 : (c1, os) ∈ all := by rw [ha]; (first | with_reducible kcf_m | kcf_m)
  have mI : (I, itR x y) ∈ all := by rw [ha]; (first | with_reducible kcf_m | kcf_m)
  have mD : (D, LCg.lst ws) ∈ all := by rw [ha]; (first | with_reducible kcf_m | kcf_m)
  refine ⟨h', tk', vs ++ [Value.ref D], nn + 1, (D, LCg.lst ws) :: nt, ol, on, hs, F, fun p hp => N p ?_, AllI.snoc (hA.mono fun p hp => List.mem_cons_of_mem _ hp) List.mem_cons_self hi, fun p hp => ?_, ⟨_, dl⟩, ⟨_, dn⟩⟩
  · simp only [List.mem_cons] at hp
    rcases hp with rfl | rfl | rfl | rfl | rfl | rfl | hp
    · exact List.mem_cons_of_mem _ (but_mem mI offI)
    · exact List.mem_cons_of_mem _ (but_mem m3 (offc _ _ _ m3 dl))
    · exact List.mem_cons_of_mem _ (but_mem m2 (offc _ _ _ m2 dn))
    · exact List.mem_cons_of_mem _ (but_mem m1 (offc _ _ _ m1 ds))
    · exact List.mem_cons_self
    · exact List.mem_cons_of_mem _ (but_mem mD hD)
    · exact List.mem_cons_of_mem _ (but_mem (by rw [ha]; (first | with_reducible kcf_m | kcf_m)) (hL p hp).2)
  · rcases List.mem_cons.mp hp with rfl | hp
    · exact ⟨⟨_, _, rfl⟩, hD⟩
    · exact hL p hp
end
theorem num_offs {h₀ h : Heap} {L : Addr} {c1 c2 c3 DR I : Addr} {ol on os : Obj} {x y : Int} {vs : List Value} {nn : Nat} {nt : List (Addr × Obj)} {vl vn : Option Value}
    (N : News h₀ L h ((I, itR x y) :: (c3, ol) :: (c2, on) :: (c1, os) :: (DR, listOf (List.toArray vs) nn) :: nt)) (hL : Lists DR nt) (dl : ol.data = .cell vl) (dn : on.data = .cell vn) :
    (I ≠ c3 ∧ I ≠ c2) ∧ (∀ p ∈ (DR, listOf (List.toArray vs) nn) :: nt, p.1 ≠ c3) ∧ ∀ p ∈ (DR, listOf (List.toArray vs) nn) :: nt, p.1 ≠ c2 := by
  refine ⟨⟨cell_offR N (by (first | with_reducible kcf_m | kcf_m)) dl List.mem_cons_self, cell_offR N (by (first | with_reducible kcf_m | kcf_m)) dn List.mem_cons_self⟩, List.forall_mem_cons.mpr ⟨cell_off N (by (first | with_reducible kcf_m | kcf_m)) dl (by (first | with_reducible kcf_m | kcf_m)) rfl, fun p hp => ?_⟩, List.forall_mem_cons.mpr ⟨cell_off N (by (first | with_reducible kcf_m | kcf_m)) dn (by (first | with_reducible kcf_m | kcf_m)) rfl, fun p hp => ?_⟩⟩
  · obtain ⟨⟨its, n', e⟩, _⟩ := hL p hp
    exact cell_off N (by (first | with_reducible kcf_m | kcf_m)) dl (by (first | with_reducible kcf_m | kcf_m)) e
  · obtain ⟨⟨its, n', e⟩, _⟩ := hL p hp
    exact cell_off N (by (first | with_reducible kcf_m | kcf_m)) dn (by (first | with_reducible kcf_m | kcf_m)) e

end

section
theorem low_step {a b x y : Int} (ha : 0 < a) (hb : 0 ≤ b) (hb' : b > 0) (h : (Int.gcd a b : Int) = Int.gcd x y) : 0 < b ∧ 0 ≤ Int.fmod a b ∧ (Int.gcd b (Int.fmod a b) : Int) = Int.gcd x y := by
  have := gcd_step hb (by omega) h
  exact ⟨hb', this.2⟩
theorem low_start {x y : Int} (hy : 0 < y) : 0 < y ∧ 0 ≤ (if x < 0 then -x else x) ∧ (Int.gcd y (if x < 0 then -x else x) : Int) = Int.gcd x y := by
  refine ⟨hy, by split <;> omega, ?_⟩
  rw [Int.gcd_comm x y]
  split
  · rw [Int.gcd_neg]
  · rfl
theorem low_fin {a b x y : Int} (h : (Int.gcd a b : Int) = Int.gcd x y) (hb : ¬ 0 < b) (hb0 : 0 ≤ b) (ha : 0 < a) : (Int.gcd x y : Int) = a := gcd_fin h (by omega) (by omega)
section
theorem con_low (x y : Int) (t u : Tok) {q : Q2} (hq : lowO x y = some q) : Con 191 10 [.int x t, .int y u] (fun _ => True) (OutQ q) := by
  unfold Con
  k_fill
  intro w mean mg mb dp un gd cn cs aa ccd cl outer A₀ base h₀ L m s Q E B F X T hk P hdp hun ret
  refine wpAny_call ?_
  k_dflt (refine' code_con [(Str.ofString "top", .int x t), (Str.ofString "bottom", .int y u)] ?k1 ?k2 ?k3 ?k5 ?kA ?kF ?kK ?k6 ?k7 ?k8 ?k9 ?kB ret ?_ ?c2 ?c3 ?c4 ?c5; (case kA => exact rfl); (case kF => exact rfl); (case kK => assumption); (case k1 => k_asm); (case k2 => k_asm); (case k3 => k_asm); (case k5 => k_asm); (case k6 => k_is); (case k7 => k_is); (case k8 => (first | exact room_lt hdp (by rfl) | exact room_lt0 hdp | exact lt_ble (by rfl) | ktr_room)); (case k9 => exact BindsTo.of_eq rfl); (case c5 => decide); (case kB => exact locs rfl); (case c2 => exact rfl); (case c3 => exact rfl); (case c4 => exact rfl); k_whole; intro g' L' h' tk0 F' N' B' X' T' keep0; (try dsimp only))
  clear ret B F T
  (try simp only [List.reverse_cons, List.reverse_nil, List.nil_append, List.cons_append, kstB] at F')
  k_with_none
  k_with "binaryOp FloorDiv int int" => ((with_reducible refine floordiv_int ?_ ?_ (Or.inl ?_)); (assumption); rotate_left; (assumption))
  unfold lowO at hq
  split at hq
  case isFalse => cases hq
  rename_i hy
  cases hq
  have hyB := hy.2
  replace hy := hy.1
  have hy0 : ¬ y = 0 := by omega
  k_with "exec While Compare cons nil" => k_while (fun _ (a b : Int) => 0 < a ∧ 0 ≤ b ∧ (Int.gcd a b : Int) = Int.gcd x y) (fun _ (a b : Int) => b.toNat) "one" "rest"
  k_with "state" => exact low_step (by k_asm) (by k_asm) (by k_asm) (by k_asm)
  k_with "state" => exact low_start hy
  k_with "measure" => exact gcd_less (by k_asm) (by omega)
  (try k_fold)
  repeat' (first | (k_unfold; (try dsimp only)) | ((fail_if_success (with_reducible show wpAny _ _ (binaryOp Operator.FloorDiv (Value.int _ _) (Value.int _ _)) _ _ _)); first | walk1 | (dsimp only; walk1)))
  have e := low_fin (x := x) (y := y) (by k_asm) (by k_asm) (by k_asm) (by k_asm)
  have p1 := gcd_py hy0 hyB (t := x) (z := x) (Int.natAbs_natCast (Int.gcd x y))
  have p2 := gcd_py hy0 hyB (t := x) (z := y) (Int.natAbs_natCast (Int.gcd x y))
  have p3 := gcd_ne (t := x) hy0
  have e2 : lowF x y = (x.fdiv (Int.gcd x y : Int), y.fdiv (Int.gcd x y : Int)) := rfl
  rw [e] at p1 p2 p3 e2
  k_steps
  all_goals (rw [e2]; exact conEndQ keep0 rfl (by k_asm) (by k_asm) (by k_mem))
end
section
noncomputable def factS (k c : Int) : Option Int := if 0 ≤ c ∧ c ≤ 120 ∧ 0 ≤ k ∧ k ≤ 5 then some (c * k) else none
theorem fact_loop {n : Int} (h0 : 0 ≤ n) (h1 : n ≤ 5) : loopO factS (n + 1 - 2).toNat 2 1 = some (factF n) := by
  obtain ⟨m, rfl⟩ := Int.eq_ofNat_of_zero_le h0
  exact (by decide +kernel : ∀ m : Fin 6, loopO factS (((m.1 : Nat) : Int) + 1 - 2).toNat 2 1 = some (factF ((m.1 : Nat) : Int))) ⟨m, by omega⟩
noncomputable def InvI (c : Int) (ps : List (Str × Value)) (st : List (Addr × Obj)) : Prop := ∃ t, ps = [(Str.ofString "found", .int c t)] ∧ st = []
theorem con_fact {n : Int} (t : Tok) (h0 : 0 ≤ n) (h1 : n ≤ 5) : Con 203 10 [.int n t] (fun _ => True) (fun _ _ r => ∃ t, r = .int (factF n) t) := by
  unfold Con
  k_fill
  intro w mean mg mb dp un gd cn cs aa ccd cl outer A₀ base h₀ L m s Q E B F X T hk P hdp hun ret
  refine wpAny_call ?_
  k_dflt (refine' code_con [(Str.ofString "n", .int n t)] ?k1 ?k2 ?k3 ?k5 ?kA ?kF ?kK ?k6 ?k7 ?k8 ?k9 ?kB ret ?_ ?c2 ?c3 ?c4 ?c5; (case kA => exact rfl); (case kF => exact rfl); (case kK => assumption); (case k1 => k_asm); (case k2 => k_asm); (case k3 => k_asm); (case k5 => k_asm); (case k6 => k_is); (case k7 => k_is); (case k8 => (first | exact room_lt hdp (by rfl) | exact room_lt0 hdp | exact lt_ble (by rfl) | ktr_room)); (case k9 => exact BindsTo.of_eq rfl); (case c5 => decide); (case kB => exact locs rfl); (case c2 => exact rfl); (case c3 => exact rfl); (case c4 => exact rfl); k_whole; intro g' L' h' tk0 F' N' B' X' T' keep0; (try dsimp only))
  clear ret B F T
  (try simp only [List.reverse_cons, List.reverse_nil, List.nil_append, List.cons_append, kstB] at F')
  k_with_none
  have hq := fact_loop h0 h1
  (try dsimp only)
  (try (with_reducible show wpAny _ _ _ _ _ _))
  (try k_fold)
  repeat' (first | (k_unfold; (try dsimp only)) | ((fail_if_success (with_reducible show wpAny _ _ (pyIter (Value.ref _)) _ _ _)); first | walk1 | (dsimp only; walk1)))
  (rename Fr _ _ _ _ => lF'); (rename News _ _ _ _ => lN'); (rename IsRange _ _ _ _ _ _ _ _ => lR)
  with_unfolding_all refine' for_led (x := Str.ofString "step") factS (factF n) 1 [] InvI [(Str.ofString "found", .int 1 _)] [] (news := []) lR lF' lN' (by rfl) (by omega) rfl hq ⟨_, rfl, rfl⟩ (fun _ h => nomatch h) Off.nil (List.forall_mem_singleton.mpr rfl) ?turn ?done
  case turn =>
    intro k' t' c c' ps u st h tk led hk0 hk1 hc hled hI hO F1 N1
    clear lF' lN' lR hq hled hO
    obtain ⟨tc, rfl, rfl⟩ := hI
    unfold factS at hc
    split at hc
    case isFalse => cases hc
    rename_i hb
    cases hc
    obtain ⟨b1, b2, b3, b4⟩ := hb
    simp only [kstB] at F1
    (try dsimp only)
    (try (with_reducible show wpAny _ _ _ _ _ _))
    (try k_fold)
    k_steps
    exact led_end [(Str.ofString "found", .int _ _)] [] rfl (by k_asm) (by k_asm) (by (first | with_reducible kcf_all | kcf_all)) ⟨_, rfl, rfl⟩ Off.nil (List.forall_mem_singleton.mpr rfl) (fun z h1 h2 h3 => by
      have ha := h2 _ List.mem_cons_self
      dsimp only at ha
      simp only [if_neg h1, if_neg ha, List.contains_nil, Bool.false_eq_true, if_false])
  case done =>
    intro ps u st h tk hI hO F1 N1
    clear lF' lN' lR hq hO
    obtain ⟨tc, rfl, rfl⟩ := hI
    simp only [kstB] at F1
    (try dsimp only)
    (try (with_reducible show wpAny _ _ _ _ _ _))
    (try k_fold)
    k_steps
    exact conEnd rfl (by k_asm) (by k_asm) ⟨_, rfl⟩
end

end

section
section

theorem con_num (size : Nat) (sec : Bool) (t : Tok) {rows : List (List Int)} (hr : rowsO size sec = some rows) (hs0 : 1 ≤ size) (hs1 : size < 64) : Con 196 60 [.int (size : Int) t, .bool sec] (fun _ => True) (OutI rows) := by
  unfold Con
  k_fill
  intro w mean mg mb dp un gd cn cs aa ccd cl outer A₀ base h₀ L m s Q E B F X T hk P hdp hun ret
  refine wpAny_call ?_
  k_dflt (refine' code_conC [(Str.ofString "size", .int (size : Int) t), (Str.ofString "is_second", .bool sec)] ?k1 ?k2 ?k3 ?k5 ?kA ?kF ?kK ?k6 ?k7 ?k8 ?k9 ?kB ?kD ret ?_ ?c2 ?c3 ?c4; (case kA => exact rfl); (case kF => exact rfl); (case kK => assumption); (case k1 => k_asm); (case k2 => k_asm); (case k3 => k_asm); (case k5 => k_asm); (case k6 => k_is); (case k7 => k_is); (case k8 => (first | exact room_lt hdp (by rfl) | exact room_lt0 hdp | exact lt_ble (by rfl) | ktr_room)); (case k9 => exact BindsTo.of_eq rfl); (case kB => exact rfl); (case kD => decide +kernel); (case c2 => exact rfl); (case c3 => exact rfl); (case c4 => exact rfl); k_whole; intro g' L' h' tk0 cells' F' N' Y' B' X' T' keep0; k_cells Y'; (try dsimp only))
  clear ret B F T
  k_with_none
  k_with "binaryOp Mult ref int" => (k_here; k_dflt (refine' mul_R ?zzk1 ?zzk2 ?zzk3 ?zzk4 ?zzk5 ?_; (case zzk1 => k_asm); (case zzk2 => k_asm); (case zzk3 => (first | with_reducible kcf_m | kcf_m)); (case zzk4 => first | assumption | omega | decide); (case zzk5 => first | assumption | omega | decide)); intro D9 h9 F9 N9 l9; (try k_sweep); (try dsimp only); (try k_fold))
  k_with "binaryOp Add ref ref" => (k_here; k_dflt (refine' add_R ?zzk1 ?zzk2 ?zzk3 ?zzk4 ?zzk5 ?_; (case zzk1 => k_asm); (case zzk2 => k_asm); (case zzk3 => (first | with_reducible kcf_m | kcf_m)); (case zzk4 => (first | with_reducible kcf_m | kcf_m)); (case zzk5 => ((try simp only [List.length_cons, List.length_nil, List.length_append, List.length_replicate, List.length_drop]); first | assumption | exact lt_ble (by rfl) | omega))); intro D9 h9 F9 N9 l9; (try k_sweep); (try dsimp only); (try k_fold))
  k_with "newList" => (k_here; (with_reducible show wpAny _ _ (newList []) _ _ _); k_dflt (refine newList_R (by k_asm) (by k_asm) ?_); intro D9 h9 F9 N9 l9; (try k_sweep); (try dsimp only); (try k_fold))
  k_with "call builtin:list.append" => (k_here; k_dflt (refine' append_F ?zzk1 ?zzk2 ?zzk3 ?zzk4 ?_; (case zzk1 => k_asm); (case zzk2 => k_asm); (case zzk3 => (first | with_reducible kcf_m | kcf_m)); (case zzk4 => omega)); intro h9 F9 N9; (try k_sweep); (try dsimp only); (try k_fold))
  k_with "getMethod ref" => (k_here; (with_reducible show wpAny _ _ (getMethod (Value.ref _) (PySem.Str.ofString "append") _) _ _ _); k_dflt (refine' kl_method ?zzN ?zzm PySem.F.slot_list_append PySem.F.type_list_append ?_; (case zzN => k_asm); (case zzm => (first | with_reducible kcf_m | kcf_m))))
  k_with "eval ListComp" => (k_here; k_dflt (refine LCg.ListComp_U (F₀ := by k_asm) (by with_unfolding_all rfl) (by decide) (by rfl) (by decide) (by rfl) ?_))
  k_with "eval Name" => (k_here; (with_reducible show wpAny _ _ (eval (Expr.Name _ _) (compEnvC _ _ _ _)) _ _ _); k_dflt (refine kcf_cell (by k_asm) (by rfl) (by (first | with_reducible kcf_m | kcf_m)) (by k_asm) ?_))
  k_with "subscriptTail" => (k_here; (with_reducible show wpAny _ _ (subscriptTail _ _ (Value.ref _) (Value.int _ _)) _ _ _); k_dflt (refine' ksa_sub ?zzk1 ?zzk2 ?zzkA ?zzk3 ?zzk4 ?zzk5 ?_ ?zzk6; (case zzk1 => k_asm); (case zzk2 => (first | with_reducible kcf_m | kcf_m)); (case zzkA => assumption); (case zzk3 => omega); (case zzk4 => omega); (case zzk5 => omega); (case zzk6 => with_unfolding_all rfl)); intro t9; (try dsimp only); (try k_fold))
  k_with "storeName" => (k_here; k_dflt (refine' store_C [_] _ ?zzk1 ?zzk2 (by rfl) ?zzh1 ?zzh2 ?zzhd ?_; (case zzk1 => k_asm); (case zzk2 => k_asm); (case zzh1 => exact List.forall_mem_singleton.mpr (by k_asm)); (case zzh2 => exact List.forall_mem_cons.mpr ⟨by (refine neN ?_; omega), List.forall_mem_cons.mpr ⟨by (refine neN ?_; omega), by assumption⟩⟩); (case zzhd => assumption)); intro h9 o9 F9 N9 d9; (try simp only [List.append_eq, List.cons_append, List.nil_append] at N9); (try k_sweep); (try dsimp only); (try k_fold))
  k_with "exec For Name Call cons nil" => (k_here; (rename Fr _ _ _ _ => lF'); (with_unfolding_all refine For_cell lF' ?_); (try k_fold))
  k_with "subscriptTail" => (k_here; (with_reducible show wpAny _ _ (subscriptTail _ _ (Value.ref _) (Value.int _ _)) _ _ _); k_dflt (refine' sub_I ?zzk1 ?zzk2 ?zzkA ?zzk3 ?zzk4 ?zzk5 ?_ ?zzk6; (case zzk1 => k_asm); (case zzk2 => (first | with_reducible kcf_m | kcf_m)); (case zzkA => assumption); (case zzk3 => omega); (case zzk4 => omega); (case zzk5 => omega); (case zzk6 => with_unfolding_all rfl)); intro b9 ws9 n9 hm9 hi9; (try dsimp only); (try k_fold))
  rename_i ol on os dl dn ds
  replace dl : ol.data = Data.cell none := dl
  replace dn : on.data = Data.cell none := dn
  replace ds : os.data = Data.cell (some (Value.bool sec)) := ds
  (try dsimp only)
  (try (with_reducible show wpAny _ _ _ _ _ _))
  (try k_fold)
  repeat' (first | (k_unfold; (try dsimp only)) | ((fail_if_success (with_reducible show CellSrc _ _ _ _ _ _ _ _ _ _ _)); first | walk1 | (dsimp only; walk1)))
  (rename Fr _ _ _ _ => lF'); (rename News _ _ _ _ => lN'); (rename IsRange _ _ _ _ _ _ _ _ => lR)
  refine num_src (c1 := L' + 1) (c2 := L' + 1 + 1) (c3 := L' + 1 + 1 + 1) size sec hr hs0 hs1 (by rfl) lR lF' lN' (List.mem_cons_self) (by (first | with_reducible kcf_m | kcf_m)) (by omega) (by (first | with_reducible kcf_m | kcf_m)) (by (first | with_reducible kcf_m | kcf_m)) (by (first | with_reducible kcf_m | kcf_m)) dl dn ds ?turn ?done
  case turn =>
    clear hr dl dn
    intro i t' rc rc' vs nn nt ol on I x y gg h tk hi hc hA hL hol hon F1 N1
    clear lF' lN' lR
    obtain ⟨vl, dl⟩ := hol
    obtain ⟨vn, dn⟩ := hon
    unfold rowsF at hc
    split at hc
    case isFalse => cases hc
    rename_i hlen
    obtain ⟨hl1, hl2⟩ := hlen
    cases hc
    obtain ⟨⟨o13, o12⟩, o3, o2⟩ := num_offs N1 hL dl dn
    refine wpAny_assign_Name (store_C [_, _] _ F1 N1 (by rfl) (List.forall_mem_cons.mpr ⟨o12, List.forall_mem_singleton.mpr (by (refine neN ?_; omega))⟩) (List.forall_mem_cons.mpr ⟨by (refine neN ?_; omega), o2⟩) dn ?_)
    intro h2 on2 F2 N2 dn2
    simp only [List.cons_append, List.nil_append] at N2
    clear F1 N1 dn o12 o2
    (try dsimp only)
    (try (with_reducible show wpAny _ _ _ _ _ _))
    (try k_fold)
    repeat' (first | (k_unfold; (try dsimp only)) | ((fail_if_success (with_reducible show LCg.CompSrc _ _ _ _ _ _ _ _ _ _ _ _ _ _)); first | walk1 | (dsimp only; walk1)))
    (rename Fr _ _ _ _ => lF'); (rename News _ _ _ _ => lN'); (rename IsRange _ _ _ _ _ _ _ _ => lR)
    refine LCg.CompSrc.range (n := size) (by rfl) lF' lN' lR (small_one (by omega) (by omega) (by omega) (by omega)) (by rw [rangeSize_nat]; omega) (by rw [PySem.sizeLine_eq]; omega) ?_
    intro gg2
    refine kcf_range (fun k => (if 0 < k then (rc.getD (1 + (i : Int) - 1).toNat []).getD (k - 1).toNat 0 else 0) + (if sec = true then k else 1 - (1 + (i : Int))) * (rc.getD (1 + (i : Int) - 1).toNat []).getD k.toNat 0) ?el ?fn
    case el =>
      intro k t2 I2 oI2 C2 oC2 D2 m2 ys h2' tk2 E' hk0 hk1 hC hx F3 N3 off ne mk
      clear lF' lN' lR mk ne
      cases sec
      all_goals (try dsimp only)
      all_goals (try k_fold)
      all_goals k_steps
      all_goals (refine kcf_el ?_ rfl rfl)
      all_goals first
        | (rw [if_pos (by k_asm)]; simp only [if_true, Bool.false_eq_true, if_false])
        | (rw [if_neg (by k_asm)]; simp only [if_true, Bool.false_eq_true, if_false])
    case fn =>
      unfold KPfDone
      intro ys hys
      unfold LCg.FinE
      intro D h3 tk3 F3 N3 o1
      have N0 := fun (q : Addr × Obj) hq => (⟨_, (N3 q hq).1, rfl⟩ : ∃ z, h3.get? q.1 = some z ∧ z = q.2)
      clear lF' lN' lR
      have hvl := hA.1
      (try dsimp only)
      (try (with_reducible show wpAny _ _ _ _ _ _))
      (try k_fold)
      k_steps
      exact num_end N0 rfl hA hL hys (by k_asm) (by k_asm) (by k_asm) o1.2.2.2.2.1.symm rfl (by k_asm) (by k_asm)
  case done =>
    intro vs nn nt ol on gg h tk hA hL F1 N1
    clear lF' lN' lR
    (try dsimp only)
    (try (with_reducible show wpAny _ _ _ _ _ _))
    (try k_fold)
    k_steps
    exact conEnd rfl (by k_asm) (by k_asm) ⟨_, _, _, nt, rfl, hA, ⟨fresh_of keep0 (by k_asm) (by (first | with_reducible kcf_m | kcf_m)), News.get (by k_asm) (by (first | with_reducible kcf_m | kcf_m))⟩, fun p hp => ⟨⟨fresh_of keep0 (by k_asm) (by (first | with_reducible kcf_m | kcf_m)), News.get (by k_asm) (by (first | with_reducible kcf_m | kcf_m))⟩, (hL p hp).2⟩⟩
end

end

section
noncomputable def rowAt (rows : List (List Int)) (n : Int) : List Int := rows.getD n.toNat []
/-- the list that the law compares with -/
noncomputable def wantF (size : Nat) (k : Int) (rows : List (List Int)) : Option (List Q2) :=
  compO (fun n => if k < (rowAt rows n).length then lowO ((rowAt rows n).getD k.toNat 0 * factF k) (factF n) else none) size 0
noncomputable def frontQ (e : List Q2) : List Q2 := (0, 1) :: e.tail
/-- top and bottom of a due item -/
noncomputable def horn (r : Q2) : List Int → Int × Int → Option (Int × Int)
  | [], c => some c
  | x :: xs, c => if okN x = true then horn r xs (c.1 * r.1 + x * c.2 * r.2, c.2 * r.2) else none
noncomputable def dueF (size : Nat) (rows : List (List Int)) (r : Q2) : Option (List Q2) :=
  loopO (fun n due => if (due.length : Int) = n ∧ n < rows.length ∧ (rowAt rows n).length < 64 then (horn r (rowAt rows n).reverse (0, 1)).bind fun c => (lowO c.1 (c.2 * factF n)).map fun q => due ++ [q] else none) size 0 []
structure LawA (size : Nat) (k : Int) (r1 r2 : List (List Int)) : Prop where
  ok : ∃ e o t1 t2, sexpF (frontF size) = some e ∧ e.length = size ∧ slogF (oneXF size) = some o ∧ o.length = size ∧ swpF (frontQ e) k.toNat = some t1 ∧ swpF o k.toNat = some t2 ∧ wantF size k r2 = some t1 ∧ wantF size k r1 = some t2
structure LawB (size : Nat) (r1 : List (List Int)) (r : Q2) : Prop where
  ok : ∃ p, spowF (oneXF size) r = some p ∧ dueF size r1 r = some p ∧ (-4 ≤ r.1 ∧ r.1 ≤ 4) ∧ 1 ≤ r.2 ∧ r.2 ≤ 3
noncomputable def lawA (size : Nat) (k : Int) : Bool :=
  match rowsO size false, rowsO size true, sexpF (frontF size), slogF (oneXF size) with
  | some r1, some r2, some e, some o => decide (e.length = size) && decide (o.length = size) && (swpF (frontQ e) k.toNat).isSome && (swpF o k.toNat).isSome && decide (wantF size k r2 = swpF (frontQ e) k.toNat) && decide (wantF size k r1 = swpF o k.toNat)
  | _, _, _, _ => false
noncomputable def lawB (size : Nat) (r : Q2) : Bool :=
  match rowsO size false, spowF (oneXF size) r with
  | some r1, some p => decide (dueF size r1 r = some p) && decide (-4 ≤ r.1) && decide (r.1 ≤ 4) && decide (1 ≤ r.2) && decide (r.2 ≤ 3)
  | _, _ => false
theorem lawA_all : ∀ size ∈ [4, 5], ∀ k ∈ [(1 : Int), 2, 3], lawA size k = true := by decide +kernel
theorem lawB_all : ∀ size ∈ [4, 5], ∀ x ∈ [(0 : Int), 1, 2, 3, 4, 5, 6, 7, 8], ∀ y ∈ [(1 : Int), 2, 3], lawB size (lowF (x - 4) y) = true := by decide +kernel

end

section
theorem news_sub {g h : Heap} {L : Addr} {all keep : List (Addr × Obj)} (N : News g L h all) (k : ∀ p ∈ keep, p ∈ all) : News g L h keep := fun p hp => N p (k p hp)
section
variable {w : World} {mean : ExcName → Option Value} {mg mb : Str → Option Value} {dp un : Nat} {gd : Option (List Code)} {cn : Str} {cs : Scope} {a : Addr} {ccd : Value} {cl : List (Str × Addr)}
    {outer : List Env} {A₀ : Around} {base h₀ : Heap} {L : Addr} {m : Str → Option Value} {news : List (Addr × Obj)} {s : Shared} {Q E : Value → Shared → Prop}
/-- a draw, the two cells of the law kept -/
theorem take_use {many : Int} (C : ConT many) {B S : Addr} {c : Int} {tc tm : Tok} {nB nS : Nat} {ys : List Value} {ns : List Int} {ok orr : Obj} {vk vr : Option Value}
    (BL : Below A₀ base outer h₀) (F : Fr h₀ L s.heap m) (X : (hd.heap_39 w.params).In h₀) (N : News h₀ L s.heap news) (T : Top hd.view_39 (looseW hd.view_39 []) mean mg mb h₀) (hk : cs.kind = .function)
    (hB : (B, listOf #[.ref S, .int c tc] nB) ∈ news) (hS : (S, listOf (List.toArray ys) nS) ∈ news) (hi : IntsAre ys ns) (hl : ys.length ≤ 5) (hc0 : 0 ≤ c) (hc1 : c < 100)
    (gk : (L + 1, ok) ∈ news) (gr : (L + 1 + 1, orr) ∈ news) (dk : ok.data = .cell vk) (dr : orr.data = .cell vr) (hdp : dp + 10 < recursionLimit) (hun : un + 8 * 10 < cLine)
    (ret : ∀ v tv tc' nB' ys' ns' nS' h' tk', 0 ≤ v → v < many → IntsAre ys' ns' → ys'.length ≤ 5 → Fr h₀ L h' m → News h₀ L h' [(B, listOf #[.ref S, .int (c + 1) tc'] nB'), (S, listOf (List.toArray ys') nS'), (L + 1, ok), (L + 1 + 1, orr)] → Q (.int v tv) { s with heap := h', toks := tk' }) :
    wpAny (model PySem.Challenge.rw_sa0091_01.row.prog w) (ktrTop dp un gd cn cs L a ccd cl outer) (call (.ref 184) [.ref B, .int many tm]) Q E s := by
  have hBS : @Ne Nat B S := fun e => by
    have e' : B = S := e
    have h1 := (N _ hB).1
    have h2 : s.heap.get? S = some (listOf (List.toArray ys) nS) := (N _ hS).1
    have h1' : s.heap.get? B = some (listOf #[.ref S, .int c tc] nB) := h1
    rw [e', h2] at h1'
    have h3 : Data.seq (List.toArray ys) nS = Data.seq #[.ref S, .int c tc] nB := congrArg Obj.data (Option.some.inj h1')
    have h4 : List.toArray ys = #[.ref S, .int c tc] := by injection h3
    cases hi with
    | nil => simp at h4
    | cons v t r => simp at h4
  refine C _ _ _ _ _ _ _ _ _ _ _ _ _ _ _ _ _ _ _ _ _ B S c tc tm nB nS ys ns BL F X T hk (news_sub N ?_) hBS hi hl hc0 hc1 hdp hun ?_
  · intro p hp
    rcases List.mem_cons.mp hp with rfl | hp
    · exact hB
    · rw [List.mem_singleton.mp hp]; exact hS
  · rintro r h' tk' news' k F' N' ⟨v, tv, tc', nB', ys', ns', nS', rfl, ⟨h0, h1⟩, hi', hl', hB', hS'⟩
    refine ret v tv tc' nB' ys' ns' nS' h' tk' h0 h1 hi' hl' F' fun p hp => ?_
    simp only [List.mem_cons, List.not_mem_nil, or_false] at hp
    have keepc : ∀ (c : Addr) (o : Obj) (v : Option Value), (c, o) ∈ news → o.data = .cell v → h'.get? c = some o := fun c o v hm hd => by
      refine k c o (N _ hm).1 fun hx => ?_
      simp only [List.mem_cons, List.not_mem_nil, or_false] at hx
      rcases hx with rfl | rfl
      · exact cell_off N hm hd hB rfl rfl
      · exact cell_off N hm hd hS rfl rfl
    rcases hp with rfl | rfl | rfl | rfl
    · exact N' _ hB'
    · exact N' _ hS'
    · exact ⟨keepc _ _ _ gk dk, (N _ gk).2⟩
    · exact ⟨keepc _ _ _ gr dr, (N _ gr).2⟩
theorem con_useI {f : Addr} {kk : Nat} {vs : List Value} {Pre : Heap → Prop} {rows : List (List Int)} (C : Con f kk vs Pre (OutI rows))
    (B : Below A₀ base outer h₀) (F : Fr h₀ L s.heap m) (X : (hd.heap_39 w.params).In h₀) (N : News h₀ L s.heap news) (T : Top hd.view_39 (looseW hd.view_39 []) mean mg mb h₀) (hk : cs.kind = .function) (P : Pre s.heap)
    (hd : dp + kk < recursionLimit) (hu : un + 8 * kk < cLine)
    (ret : ∀ D n vs nx h' tk', Fr h₀ L h' m → News h₀ L h' ((D, listOf (List.toArray vs) n) :: (nx ++ news)) → AllI nx vs rows → Q (.ref D) { s with heap := h', toks := tk' }) :
    wpAny (model PySem.Challenge.rw_sa0091_01.row.prog w) (ktrTop dp un gd cn cs L a ccd cl outer) (call (.ref f) vs) Q E s :=
  con_use C B F X N T hk P hd hu fun r h' tk' k F' N' ⟨D, n, vs, nx, e, hA, hD, hn⟩ => by
    subst e
    refine ret D n vs nx h' tk' F' (fun p hp => ?_) hA
    rcases List.mem_cons.mp hp with rfl | hp
    · exact fresh_news F hD.1 hD.2
    · rcases List.mem_append.mp hp with hp | hp
      · exact fresh_news F (hn p hp).1.1 (hn p hp).1.2
      · exact N' p hp
end
/-- a cell stored, what is named kept -/
theorem store_keep {M : Model} {A : Around} {E : Value → Shared → Prop} {s : Shared} {h₀ : Heap} {L a : Addr} {m : Str → Option Value} {cn : Str} {cs : Scope} {ccd : Value} {cl : List (Str × Addr)} {x : Str} {v : Value} {Q : Unit → Shared → Prop} {c : Addr} {o : Obj} {v₀ : Option Value} {all : List (Addr × Obj)} (keep : List (Addr × Obj))
    (F : Fr h₀ L s.heap m) (N : News h₀ L s.heap all) (hc : cl.lookup x = some c) (hm : (c, o) ∈ all) (hd : o.data = .cell v₀) (hsub : ∀ p ∈ keep, p ∈ all) (hne : ∀ p ∈ keep, p.1 ≠ c)
    (h : ∀ h' o', Fr h₀ L h' m → News h₀ L h' ((c, o') :: keep) → o'.data = .cell (some v) → Q () { s with heap := h' })
    (hk : cs.kind = .function := by rfl) (hx : (envX cn cs L a ccd cl).kindOf x = some .cell := by rfl) : wpAny M A (storeName (envX cn cs L a ccd cl) x v) Q E s :=
  store_C [] keep F (news_sub N (fun p hp => by
    rcases List.mem_cons.mp hp with rfl | hp
    · exact hm
    · exact hsub p hp)) hc (fun _ h => nomatch h) hne hd h hk hx
theorem con_numI {n : Int} {size : Nat} (sec : Bool) (t : Tok) {rows : List (List Int)} (hn : n = (size : Int)) (hr : rowsO size sec = some rows) (hs0 : 1 ≤ size) (hs1 : size < 64) : Con 196 60 [.int n t, .bool sec] (fun _ => True) (OutI rows) := by
  subst hn; exact con_num size sec t hr hs0 hs1
theorem AllR.rep {nx : List (Addr × Obj)} {b : Addr} {q : Q2} (h : RQ nx b q) : ∀ n : Nat, AllR nx (List.replicate n (Value.ref b)) (List.replicate n q)
  | 0 => AllR.nil
  | n + 1 => AllR.cons h (AllR.rep h n)
theorem slice1_R {prog : Program} {w : World} {A : Around} {E : Value → Shared → Prop} {s : Shared} {h₀ : Heap} {L l : Addr} {m : Str → Option Value} {news : List (Addr × Obj)} {value slice : PySem.Expr} {vs : List Value} {n : Nat} {vl vu : Value} {Q : Value → Shared → Prop}
    (F : Fr h₀ L s.heap m) (N : News h₀ L s.heap news) (hm : (l, listOf vs.toArray n) ∈ news) (pl : IsPart vl (some 1)) (pu : IsPart vu none) (hsz : vs.length < 1000)
    (h : ∀ D h', Fr h₀ L h' m → News h₀ L h' ((D, listOf (List.toArray (vs.drop 1)) 0) :: news) → (∀ p ∈ news, p.1 < D) → Q (.ref D) { s with heap := h' })
    (hs : subscripted slice false (.ref l) (.ref s.heap.objs.size) = operate [.ref s.heap.objs.size, .ref l] (getItem (.ref l) (.ref s.heap.objs.size))) (ht : ∀ r, letTemporaryGo value (.ref l) r = pure ()) :
    wpAny (model prog w) A (subscriptTail value slice (.ref l) (.ref s.heap.objs.size)) Q E { s with heap := s.heap.push { cls := .type "slice", data := .fields #[vl, vu, .none] } } := by
  refine kms_slice_lit F N (News.isList N hm) pl pu ?_ h hs ht (by show vs.toArray.size ≤ sizeLine; rw [List.size_toArray, PySem.sizeLine_eq]; omega)
  show kms_pick vs (some 1) none = vs.drop 1
  unfold kms_pick
  have e1 : kms_lo (some 1) vs.length = min 1 vs.length := rfl
  have e2 : kms_hi none vs.length = vs.length := rfl
  rw [e1, e2]
  cases vs with
  | nil => rfl
  | cons v r =>
    have e3 : min 1 (v :: r).length = 1 := by rw [List.length_cons]; omega
    rw [e3, List.drop_succ_cons, List.drop_zero, List.length_cons, Nat.add_sub_cancel, List.take_length]
theorem AllR.tail {nx : List (Addr × Obj)} {vs : List Value} {qs : List Q2} (h : AllR nx vs qs) : AllR nx (vs.drop 1) qs.tail := by
  cases vs with
  | nil =>
    cases qs with
    | nil => exact AllR.nil
    | cons q r => have := h.1; simp at this
  | cons v vs =>
    cases qs with
    | nil => have := h.1; simp at this
    | cons q r =>
      refine ⟨by have := h.1; simp at this ⊢; exact this, fun k h0 h1 => ?_⟩
      have e1 : (k + 1).toNat = k.toNat + 1 := succ_toNat h0
      obtain ⟨b, e, y⟩ := h.2 (k + 1) (by omega) (by simp at h1 ⊢; omega)
      refine ⟨b, ?_, ?_⟩
      · rw [e1] at e; simpa using e
      · unfold gt at y ⊢; rw [e1] at y; simpa using y
theorem front_all {nx : List (Addr × Obj)} {a b c : Addr} {n size : Nat} (ra : RQ nx a (0, 1)) (rb : RQ nx b (1, 1)) (rc : RQ nx c (0, 1)) (hn : n = size - 2) : AllR nx ([.ref a, .ref b] ++ List.replicate n (.ref c)) (frontF size) := by
  subst hn; exact AllR.cons ra (AllR.cons rb (AllR.rep rc _))
theorem oneX_all {nx : List (Addr × Obj)} {a b c : Addr} {n size : Nat} (ra : RQ nx a (1, 1)) (rb : RQ nx b (1, 1)) (rc : RQ nx c (0, 1)) (hn : n = size - 2) : AllR nx ([.ref a, .ref b] ++ List.replicate n (.ref c)) (oneXF size) := by
  subst hn; exact AllR.cons ra (AllR.cons rb (AllR.rep rc _))
theorem lawA_of {size : Nat} {k : Int} (hs : size = 4 ∨ size = 5) (h0 : 1 ≤ k) (h1 : k ≤ 3) : ∃ r1 r2, rowsO size false = some r1 ∧ rowsO size true = some r2 ∧ LawA size k r1 r2 := by
  have ms : size ∈ [4, 5] := by rcases hs with rfl | rfl <;> simp
  have mk : k ∈ [(1 : Int), 2, 3] := by
    have e := int_mem3 (y := k - 1) (Int.sub_nonneg_of_le h0) (by omega)
    rw [Int.add_comm, Int.sub_add_cancel] at e
    exact e
  have h := lawA_all size ms k mk
  unfold lawA at h
  split at h
  · rename_i r1 r2 e o e1 e2 e3 e4
    simp only [Bool.and_eq_true, decide_eq_true_eq] at h
    obtain ⟨⟨⟨⟨⟨h1, h2⟩, h3⟩, h4⟩, h5⟩, h6⟩ := h
    obtain ⟨t1, h3⟩ := Option.isSome_iff_exists.mp h3
    obtain ⟨t2, h4⟩ := Option.isSome_iff_exists.mp h4
    exact ⟨r1, r2, e1, e2, ⟨e, o, t1, t2, e3, h1, e4, h2, h3, h4, h5.trans h3, h6.trans h4⟩⟩
  · cases h
theorem lawB_of {size : Nat} {x y : Int} {r1 : List (List Int)} (hr : rowsO size false = some r1) (hs : size = 4 ∨ size = 5) (hx0 : 0 ≤ x) (hx1 : x < 9) (hy0 : 0 ≤ y) (hy1 : y < 3) : LawB size r1 (lowF (x - 4) (1 + y)) := by
  have ms : size ∈ [4, 5] := by rcases hs with rfl | rfl <;> simp
  have mx := int_mem9 hx0 hx1
  have my := int_mem3 hy0 hy1
  have h := lawB_all size ms x mx (1 + y) my
  unfold lawB at h
  rw [hr] at h
  split at h
  · rename_i r1' p e1 e2
    cases e1
    simp only [Bool.and_eq_true, decide_eq_true_eq] at h
    obtain ⟨⟨⟨⟨h1, h2⟩, h3⟩, h4⟩, h5⟩ := h
    exact ⟨p, e2, h1, ⟨h2, h3⟩, h4, h5⟩
  · cases h

end

section
noncomputable def datQ (q : Q2) : PyData := .tuple [.int q.1, .int q.2]
theorem datQ_lay : ∀ qs : List Q2, PyData.canLayAll0 (qs.map datQ) = true ∧ PyData.depthAll (qs.map datQ) ≤ 4 := by
  intro qs
  induction qs with
  | nil => simp [PyData.canLayAll0, PyData.depthAll]
  | cons q r ih =>
    simp only [List.map_cons, PyData.canLayAll0, PyData.depthAll, Bool.and_eq_true]
    refine ⟨⟨by simp [datQ, PyData.canLay0, PyData.canLayAll0], ih.1⟩, ?_⟩
    have : PyData.depth (datQ q) ≤ 4 := by simp [datQ, PyData.depth, PyData.depthAll]
    omega
theorem datQ_eqv : ∀ qs : List Q2, PyData.eqvAll (qs.map datQ) (qs.map datQ) = true := by
  intro qs
  induction qs with
  | nil => simp [PyData.eqvAll]
  | cons q r ih =>
    simp only [List.map_cons, PyData.eqvAll, ih, Bool.and_true]
    have := eqv_q q.1 q.2 q.1 q.2
    simpa [datQ] using this
theorem readsAll_Q {h : Heap} : ∀ (vs : List Value) (qs : List Q2), vs.length = qs.length → (∀ k : Int, 0 ≤ k → k < qs.length → ∃ b, vs[k.toNat]? = some (.ref b) ∧ AQ h b (gt qs k)) → ∃ as, ReadsAll h vs (qs.map datQ) as := by
  intro vs
  induction vs with
  | nil =>
    intro qs e _
    cases qs with
    | nil => exact ⟨_, ReadsAll.nil⟩
    | cons q r => simp at e
  | cons v vs ih =>
    intro qs e x
    cases qs with
    | nil => simp at e
    | cons q r =>
      obtain ⟨b, hb, t, u, ht⟩ := x 0 (by omega) (by simp)
      have hv : v = .ref b := by simpa using hb
      subst hv
      obtain ⟨as, ra⟩ := reads_q ht
      obtain ⟨bs, rb⟩ := ih r (by simpa using e) fun k h0 h1 => by
        obtain ⟨c, hc, y⟩ := x (k + 1) (by omega) (by simp; omega)
        have e1 : (k + 1).toNat = k.toNat + 1 := succ_toNat h0
        rw [e1] at hc
        refine ⟨c, by simpa using hc, ?_⟩
        unfold gt at y ⊢
        rw [e1] at y
        simpa using y
      exact ⟨_, ReadsAll.cons ra rb⟩
theorem reads_S {h : Heap} {l : Addr} {qs : List Q2} (x : SQ h l qs) : ∃ as, Reads h (.ref l) (.list (qs.map datQ)) as := by
  obtain ⟨vs, ⟨o, ho, hc, n, hd⟩, e, x⟩ := x
  obtain ⟨as, r⟩ := readsAll_Q vs qs e x
  exact ⟨_, reads_list_at ho hc hd r⟩
theorem shaped_S (qs : List Q2) : SeqAt.shaped (.list (qs.map datQ)) = true := by
  have := datQ_lay qs
  have h1 : PyData.canLay0 (.list (qs.map datQ)) = true := by simp only [PyData.canLay0]; exact this.1
  have h2 : PyData.depth (.list (qs.map datQ)) ≤ 64 := by simp only [PyData.depth]; omega
  unfold SeqAt.shaped
  rw [h1, decide_eq_true h2]; rfl
section
variable {prog : Program} {w : World} {A : Around} {E : Value → Shared → Prop} {s : Shared} {a b : Addr} {qs : List Q2} {Q : Value → Shared → Prop}
theorem ne_S (Ta : SQ s.heap a qs) (Tb : SQ s.heap b qs) (hu : A.units + 64 < cLine) (h : Q (.bool false) s) : wpAny (model prog w) A (compareOp .NotEq (.ref a) (.ref b)) Q E s := by
  obtain ⟨as, ra⟩ := reads_S Ta
  obtain ⟨bs, rb⟩ := reads_S Tb
  refine ne_dataH ra rb (shaped_S qs) (shaped_S qs) hu ?_
  have e : PyData.eqv (.list (qs.map datQ)) (.list (qs.map datQ)) = true := by simp only [PyData.eqv, datQ_eqv]
  rw [e]; exact h
theorem eq_S (Ta : SQ s.heap a qs) (Tb : SQ s.heap b qs) (hu : A.units + 64 < cLine) (h : Q (.bool true) s) : wpAny (model prog w) A (compareOp .Eq (.ref a) (.ref b)) Q E s := by
  obtain ⟨as, ra⟩ := reads_S Ta
  obtain ⟨bs, rb⟩ := reads_S Tb
  refine eq_dataH ra rb (shaped_S qs) (shaped_S qs) hu ?_
  have e : PyData.eqv (.list (qs.map datQ)) (.list (qs.map datQ)) = true := by simp only [PyData.eqv, datQ_eqv]
  rw [e]; exact h
end
theorem con_swp {a : Addr} {as qs : List Q2} {k : Int} {t : Tok} (hq : swpF as k.toNat = some qs) (h0 : as.length = 4 ∨ as.length = 5) (hk0 : 1 ≤ k) (hk1 : k ≤ 3) : Con 177 60 [.ref a, .int k t] (fun h => SQ h a as) (OutS qs) := by
  have h : k = 1 ∨ k = 2 ∨ k = 3 := by omega
  rcases h with rfl | rfl | rfl
  · exact con_swp1 a as qs t hq h0
  · exact con_swp2 a as qs t hq h0
  · exact con_swp3 a as qs t hq h0
theorem front2_all {nx : List (Addr × Obj)} {a : Addr} {vs : List Value} {e : List Q2} (ra : RQ nx a (0, 1)) (h : AllR nx vs e) : AllR nx ([.ref a] ++ vs.drop 1) (frontQ e) := AllR.cons ra h.tail
theorem newList_V {M : Model} {A : Around} {E : Value → Shared → Prop} {s : Shared} {h₀ : Heap} {L : Addr} {m : Str → Option Value} {news : List (Addr × Obj)} {vs : List Value} {Q : Value → Shared → Prop} (F : Fr h₀ L s.heap m) (N : News h₀ L s.heap news) (hsz : vs.length < 1000)
    (h : ∀ D h', Fr h₀ L h' m → News h₀ L h' ((D, listOf vs.toArray 0) :: news) → (∀ p ∈ news, p.1 ≠ D) → Q (.ref D) { s with heap := h' }) :
    wpAny M A (newList vs) Q E s :=
  newList_N (hsz := by rw [PySem.sizeLine_eq]; omega) F N fun h' F' N' => h _ h' F' N' (fun p hp e => by have := Heap.lt_size (N p hp).1; rw [e] at this; exact Nat.lt_irrefl _ this)
theorem newTuple_V {M : Model} {A : Around} {E : Value → Shared → Prop} {s : Shared} {h₀ : Heap} {L : Addr} {m : Str → Option Value} {news : List (Addr × Obj)} {vs : List Value} {Q : Value → Shared → Prop} (F : Fr h₀ L s.heap m) (N : News h₀ L s.heap news) (hsz : vs.length < 1000)
    (h : ∀ D c h', Fr h₀ L h' m → News h₀ L h' ((D, ({ cls := .type "tuple", data := .seq vs.toArray c } : Obj)) :: news) → (∀ p ∈ news, p.1 ≠ D) → Q (.ref D) { s with heap := h' }) :
    wpAny M A (newTuple vs) Q E s :=
  newTuple_N (hsz := by rw [PySem.sizeLine_eq]; omega) F N fun h' F' N' => h _ _ h' F' N' (fun p hp e => by have := Heap.lt_size (N p hp).1; rw [e] at this; exact Nat.lt_irrefl _ this)
theorem factF_pos {n : Int} : 1 ≤ factF n ∧ factF n ≤ 120 := by
  unfold factF
  repeat' split
  all_goals omega

end

section
theorem cell_offT {g h : Heap} {L c : Addr} {o : Obj} {all : List (Addr × Obj)} {v : Option Value} (N : News g L h all) (hm : (c, o) ∈ all) (hd : o.data = .cell v) {p : Addr × Obj} (hp : p ∈ all) {its : Array Value} {n : Nat} (e : p.2.data = .seq its n) : p.1 ≠ c := fun e1 => by
  have h1 := (N p hp).1
  have h2 : h.get? c = some o := (N _ hm).1
  rw [e1, h2] at h1
  rw [Option.some.inj h1, e] at hd
  cases hd
theorem but_seq {g h : Heap} {L c : Addr} {o : Obj} {all : List (Addr × Obj)} {v : Option Value} (N : News g L h all) (hm : (c, o) ∈ all) (hd : o.data = .cell v) {p : Addr × Obj} (hp : p ∈ all) {its : Array Value} {n : Nat} (e : p.2.data = .seq its n) : p ∈ but c all := but_mem hp (cell_offT N hm hd hp e)
theorem but_R {g h : Heap} {L c : Addr} {o : Obj} {all : List (Addr × Obj)} {v : Option Value} (N : News g L h all) (hm : (c, o) ∈ all) (hd : o.data = .cell v) {b : Addr} {q : Q2} (x : RQ all b q) : RQ (but c all) b q :=
  x.imp (fun ⟨t, u, n, m⟩ => ⟨t, u, n, but_seq N hm hd m rfl⟩) id
theorem but_AllR {g h : Heap} {L c : Addr} {o : Obj} {all : List (Addr × Obj)} {v : Option Value} (N : News g L h all) (hm : (c, o) ∈ all) (hd : o.data = .cell v) {vs : List Value} {qs : List Q2} (x : AllR all vs qs) : AllR (but c all) vs qs :=
  ⟨x.1, fun k h0 h1 => let ⟨b, e, y⟩ := x.2 k h0 h1; ⟨b, e, but_R N hm hd y⟩⟩
theorem but_AllI {g h : Heap} {L c : Addr} {o : Obj} {all : List (Addr × Obj)} {v : Option Value} (N : News g L h all) (hm : (c, o) ∈ all) (hd : o.data = .cell v) {vs : List Value} {rows : List (List Int)} (x : AllI all vs rows) : AllI (but c all) vs rows :=
  ⟨x.1, fun k h0 h1 => let ⟨b, ws, n, e, m, y⟩ := x.2 k h0 h1; ⟨b, ws, n, e, but_seq N hm hd m rfl, y⟩⟩
/-- what a turn over the powers has at hand -/
noncomputable def ToldIt (K : List (Addr × Obj)) (size : Nat) (k : Int) (v : Addr) : Prop :=
  ∃ Dt Dw c n1 n2 vst vsw t rows, (v, ({ cls := .type "tuple", data := .seq #[.ref Dt, .ref Dw] c } : Obj)) ∈ K ∧ (Dt, listOf (List.toArray vst) n1) ∈ K ∧ AllR K vst t ∧ (Dw, listOf (List.toArray vsw) n2) ∈ K ∧ AllI K vsw rows ∧ wantF size k rows = some t
theorem ToldIt.mono {K K' : List (Addr × Obj)} {size : Nat} {k : Int} {v : Addr} (x : ToldIt K size k v) (s : ∀ p ∈ K, p ∈ K') : ToldIt K' size k v :=
  let ⟨Dt, Dw, c, n1, n2, vst, vsw, t, rows, m1, m2, hA, m3, hI, hw⟩ := x; ⟨Dt, Dw, c, n1, n2, vst, vsw, t, rows, s _ m1, s _ m2, hA.mono s, s _ m3, hI.mono s, hw⟩
theorem told_it {g h : Heap} {L c : Addr} {o : Obj} {all : List (Addr × Obj)} {v : Option Value} {size : Nat} {k : Int} {T Dt Dw : Addr} {cT n1 n2 : Nat} {vst vsw : List Value} {t : List Q2} {rows : List (List Int)} (N : News g L h all) (hm : (c, o) ∈ all) (hd : o.data = .cell v)
    (m1 : (T, ({ cls := .type "tuple", data := .seq #[.ref Dt, .ref Dw] cT } : Obj)) ∈ all) (m2 : (Dt, listOf (List.toArray vst) n1) ∈ all) (hA : AllR all vst t) (m3 : (Dw, listOf (List.toArray vsw) n2) ∈ all) (hI : AllI all vsw rows) (hw : wantF size k rows = some t) : ToldIt (but c all) size k T :=
  ⟨Dt, Dw, cT, n1, n2, vst, vsw, t, rows, but_seq N hm hd m1 rfl, but_seq N hm hd m2 rfl, but_AllR N hm hd hA, but_seq N hm hd m3 rfl, but_AllI N hm hd hI, hw⟩
section
variable {prog : Program} {w : World} {A : Around} {E : Value → Shared → Prop} {s : Shared} {env : Env} {h₀ : Heap} {Q : Flow → Shared → Prop} {target : Expr} {body : List Stmt}
noncomputable def ToldPost (h₀ : Heap) (L : Addr) (m : Str → Option Value) (cr : Addr) (K : List (Addr × Obj)) (s₁ : Shared) (Q : Flow → Shared → Prop) (f : Flow) (s₂ : Shared) : Prop :=
  match f with
  | .ret v => Q (.ret v) s₂
  | .brk => Q .next s₂
  | _ => ∃ h' tk' m' o' all, s₂ = { s₁ with heap := h', toks := tk' } ∧ Fr h₀ L h' m' ∧ News h₀ L h' all ∧ (∀ p ∈ (cr, o') :: K, p ∈ all) ∧ (∃ v, o'.data = .cell v) ∧ ∀ z, z ≠ Str.ofString "told" → m' z = m z
theorem told_end {L : Addr} {m m' : Str → Option Value} {cr : Addr} {K all : List (Addr × Obj)} {s₁ s₂ : Shared} {h' : Heap} {tk' : Nat} {o' : Obj} {v : Option Value} (hs : s₂ = { s₁ with heap := h', toks := tk' }) (F : Fr h₀ L h' m') (N : News h₀ L h' all) (hm : (cr, o') ∈ all) (hd : o'.data = .cell v)
    (sub : ∀ p ∈ K, p ∈ all) (hr : ∀ z, z ≠ Str.ofString "told" → m' z = m z) : ToldPost h₀ L m cr K s₁ Q .next s₂ :=
  ⟨h', tk', m', o', all, hs, F, N, fun p hp => by
    rcases List.mem_cons.mp hp with rfl | hp
    · exact hm
    · exact sub p hp, ⟨v, hd⟩, hr⟩
theorem told_loop {size : Nat} {k : Int} {m : Str → Option Value} {all : List (Addr × Obj)} {T Ta Tb cr : Addr} {c : Nat} {o : Obj} {vr : Option Value} (hh : A.handled = none) (F : Fr h₀ env.locals s.heap m) (N : News h₀ env.locals s.heap all)
    (mT : (T, ({ cls := .type "tuple", data := .seq #[.ref Ta, .ref Tb] c } : Obj)) ∈ all) (mr : (cr, o) ∈ all) (dr : o.data = .cell vr) (pa : ToldIt (but cr all) size k Ta) (pb : ToldIt (but cr all) size k Tb)
    (turn : ∀ v o₁ v₁ m₁ h tk led, (∀ p ∈ but cr all, p ∈ led) → (∀ p ∈ led, p.1 ≠ cr) → ToldIt led size k v → o₁.data = .cell v₁ → (∀ z, z ≠ Str.ofString "told" → m₁ z = m z) → Fr h₀ env.locals h m₁ → News h₀ env.locals h ((cr, o₁) :: led) →
      wpAny (model prog w) A (assign target env (.ref v)) (fun _ s₂ => wpAny (model prog w) A (execs body env) (ToldPost h₀ env.locals m cr led { s with heap := h, toks := tk } Q) E s₂) E { s with heap := h, toks := tk })
    (done : ∀ o₁ m₁ h tk, (∀ z, z ≠ Str.ofString "told" → m₁ z = m z) → Fr h₀ env.locals h m₁ → News h₀ env.locals h ((cr, o₁) :: but cr all) → Q .next { s with heap := h, toks := tk }) :
    wpAny (model prog w) A (pyIter (.ref T)) (fun it s₂ => TurnsAt prog w A h₀ env target body Q E it s₂) E s := by
  have mT' : (T, ({ cls := .type "tuple", data := .seq #[.ref Ta, .ref Tb] c } : Obj)) ∈ but cr all := but_seq N mr dr mT rfl
  have N₁ : News h₀ env.locals s.heap ((cr, o) :: but cr all) := fun p hp => by
    rcases List.mem_cons.mp hp with rfl | hp
    · exact N _ mr
    · exact N p (List.mem_filter.mp hp).1
  refine iter_tupTurns (vs := [.ref Ta, .ref Tb]) (news := (cr, o) :: but cr all) hh F N₁ (List.mem_cons_of_mem _ mT') rfl rfl fun I lI => ?_
  have offI : ∀ o₁ : Obj, ∀ p ∈ (cr, o₁) :: but cr all, p.1 ≠ I := fun o₁ p hp => by
    rcases List.mem_cons.mp hp with rfl | hp
    · exact Nat.ne_of_lt (lI (cr, o) List.mem_cons_self)
    · exact Nat.ne_of_lt (lI p (List.mem_cons_of_mem _ hp))
  have one : ∀ (v : Addr) (r : List Itm) (m₁ : Str → Option Value) (o₁ : Obj) (v₁ : Option Value), ToldIt (but cr all) size k v → o₁.data = .cell v₁ → (∀ z, z ≠ Str.ofString "told" → m₁ z = m z) →
      (∀ m₂ o₂ v₂, o₂.data = .cell v₂ → (∀ z, z ≠ Str.ofString "told" → m₂ z = m z) → ItemsRest prog w A E h₀ env target body Q s [(I, "tuple_iterator")] [(T, ({ cls := .type "tuple", data := .seq #[.ref Ta, .ref Tb] c } : Obj))] r m₂ ((cr, o₂) :: but cr all)) →
      ItemsRest prog w A E h₀ env target body Q s [(I, "tuple_iterator")] [(T, ({ cls := .type "tuple", data := .seq #[.ref Ta, .ref Tb] c } : Obj))] (.val (.ref v) :: r) m₁ ((cr, o₁) :: but cr all) := by
    intro v r m₁ o₁ v₁ pv d₁ a₁ rest
    refine ItemsRest.val fun h tk F₁ => AllObj.cons fun it hit => AllObj.nil fun N₂ => ?_
    have offr : ∀ p ∈ (I, it) :: but cr all, p.1 ≠ cr := fun p hp => by
      rcases List.mem_cons.mp hp with rfl | hp
      · exact (Nat.ne_of_lt (lI (cr, o) List.mem_cons_self)).symm
      · exact of_decide_eq_true (List.mem_filter.mp hp).2
    refine wpAny_mono (turn v o₁ v₁ m₁ h tk ((I, it) :: but cr all) (fun p hp => List.mem_cons_of_mem _ hp) offr (pv.mono fun p hp => List.mem_cons_of_mem _ hp) d₁ a₁ F₁ (fun p hp => N₂ p ?_)) (fun _ s₂ z => wpAny_mono z (fun f s₃ p => ?_) fun _ _ e => e) fun _ _ e => e
    · rcases List.mem_cons.mp hp with rfl | hp
      · exact List.mem_append_right _ List.mem_cons_self
      · rcases List.mem_cons.mp hp with rfl | hp
        · exact List.mem_append_left _ List.mem_cons_self
        · exact List.mem_append_right _ (List.mem_cons_of_mem _ hp)
    · have up : (∃ h' tk' m' o' all', s₃ = { { s with heap := h, toks := tk } with heap := h', toks := tk' } ∧ Fr h₀ env.locals h' m' ∧ News h₀ env.locals h' all' ∧ (∀ p ∈ (cr, o') :: (I, it) :: but cr all, p ∈ all') ∧ (∃ v, o'.data = .cell v) ∧ ∀ z, z ≠ Str.ofString "told" → m' z = m z) →
          UnrEndW h₀ env.locals { s with heap := h, toks := tk } [(I, it)] (fun m' n' => SubL [(T, ({ cls := .type "tuple", data := .seq #[.ref Ta, .ref Tb] c } : Obj))] n' ∧ ItemsRest prog w A E h₀ env target body Q s [(I, "tuple_iterator")] [(T, ({ cls := .type "tuple", data := .seq #[.ref Ta, .ref Tb] c } : Obj))] r m' n') s₃ := by
        rintro ⟨h', tk', m', o', all', rfl, F', N', sub, ⟨v', d'⟩, a'⟩
        refine ⟨h', tk', m', (cr, o') :: but cr all, rfl, F', fun p hp => N' p (sub p ?_), fun p hp q hq => ?_, ⟨List.mem_cons_of_mem _ mT', trivial⟩, rest m' o' v' d' a'⟩
        · rcases List.mem_append.mp hp with hp | hp
          · rw [List.mem_singleton.mp hp]; exact List.mem_cons_of_mem _ List.mem_cons_self
          · rcases List.mem_cons.mp hp with rfl | hp
            · exact List.mem_cons_self
            · exact List.mem_cons_of_mem _ (List.mem_cons_of_mem _ hp)
        · rw [List.mem_singleton.mp hq]; exact offI o' p hp
      cases f with
      | ret v => exact p
      | brk => exact p
      | next => exact up p
      | cont => exact up p
  refine one Ta _ m o vr pa dr (fun _ _ => rfl) fun m₂ o₂ v₂ d₂ a₂ => one Tb _ m₂ o₂ v₂ pb d₂ a₂ fun m₃ o₃ v₃ d₃ a₃ => ItemsRest.zero fun h tk F₃ N₃ => done o₃ m₃ h tk a₃ F₃ N₃
end
theorem cell_keep {g h : Heap} {L c c' : Addr} {o : Obj} {all : List (Addr × Obj)} (_ : News g L h all) (hm : (c', o) ∈ all) (hne : c' ≠ c) : (c', o) ∈ but c all := but_mem hm hne
theorem fr_told {h₀ h : Heap} {L : Addr} {m₁ m : Str → Option Value} (e : ∀ z, z ≠ Str.ofString "told" → m₁ z = m z) (F : Fr h₀ L h m₁) : Fr h₀ L h (fun z => if z = Str.ofString "told" then m₁ z else m z) := by
  have : m₁ = fun z => if z = Str.ofString "told" then m₁ z else m z := by
    funext z
    by_cases hz : z = Str.ofString "told"
    · simp [hz]
    · rw [if_neg hz]; exact e z hz
  rw [this] at F
  have e2 : (fun z => if z = Str.ofString "told" then (if z = Str.ofString "told" then m₁ z else m z) else m z) = fun z => if z = Str.ofString "told" then m₁ z else m z := by
    funext z
    by_cases hz : z = Str.ofString "told"
    · simp [hz]
    · simp [hz]
  exact F
theorem tup_of {g h : Heap} {L T : Addr} {all : List (Addr × Obj)} {a : Array Value} {c : Nat} (N : News g L h all) (hm : (T, ({ cls := .type "tuple", data := .seq a c } : Obj)) ∈ all) : IsTup h T a := ⟨_, N.get hm, rfl, _, rfl⟩

end

section
noncomputable def foldO {σ : Type} (f : Int → σ → Option σ) : List Int → σ → Option σ
  | [], c => some c
  | x :: xs, c => (f x c).bind (foldO f xs)
section
variable {prog : Program} {w : World} {A : Around} {E : Value → Shared → Prop} {s : Shared} {env : Env} {h₀ : Heap} {x : Str} {body : List Stmt} {Q : Flow → Shared → Prop}
noncomputable def ListPost {σ : Type} (h₀ : Heap) (L : Addr) (x : Str) (stored : List Str) (m₀ : Str → Option Value) (Inv : σ → List (Str × Value) → Prop) (c' : σ) (led : List (Addr × Obj)) (s₁ : Shared) (Q : Flow → Shared → Prop) (f : Flow) (s₂ : Shared) : Prop :=
  match f with
  | .ret v => Q (.ret v) s₂
  | .brk => Q .next s₂
  | _ => ∃ h' tk m' all ps', s₂ = { s₁ with heap := h', toks := tk } ∧ Fr h₀ L h' m' ∧ News h₀ L h' all ∧ (∀ p ∈ led, p ∈ all) ∧ Inv c' ps' ∧ (∀ p ∈ ps', m' p.1 = some p.2) ∧ ∀ z, z ≠ x → (∀ p ∈ ps', z ≠ p.1) → stored.contains z = false → m' z = m₀ z
theorem list_end {σ : Type} {L : Addr} {stored : List Str} {m₀ m' : Str → Option Value} {Inv : σ → List (Str × Value) → Prop} {c' : σ} {led all : List (Addr × Obj)} {s₁ s₂ : Shared} {h' : Heap} {tk : Nat} (ps' : List (Str × Value))
    (hs : s₂ = { s₁ with heap := h', toks := tk }) (F : Fr h₀ L h' m') (N : News h₀ L h' all) (sub : ∀ p ∈ led, p ∈ all) (hI : Inv c' ps') (hk : ∀ p ∈ ps', m' p.1 = some p.2) (hr : ∀ z, z ≠ x → (∀ p ∈ ps', z ≠ p.1) → stored.contains z = false → m' z = m₀ z) :
    ListPost h₀ L x stored m₀ Inv c' led s₁ Q .next s₂ := ⟨h', tk, m', all, ps', hs, F, N, sub, hI, hk, hr⟩
/-- which ledger is meant -/
noncomputable def LedIs (_ : List (Addr × Obj)) : Prop := True
theorem led_is {h₀ h : Heap} {L : Addr} {all : List (Addr × Obj)} (_ : News h₀ L h all) : LedIs all := True.intro
theorem for_foldL {σ : Type} (f : Int → σ → Option σ) (r c₀ : σ) (stored : List Str) (Inv : σ → List (Str × Value) → Prop) (ps₀ : List (Str × Value)) {l : Addr} {vs : List Value} {ns : List Int} {n : Nat} {m₀ : Str → Option Value} {news all : List (Addr × Obj)}
    (_b : LedIs news) (hh : A.handled = none) (F : Fr h₀ env.locals s.heap m₀) (N : News h₀ env.locals s.heap all) (hm : (l, listOf (List.toArray vs) n) ∈ all) (hi : IntsAre vs ns) (hsub : ∀ p ∈ news, p ∈ all) (hoff : ∀ p ∈ news, p.1 ≠ l)
    (hf : foldO f ns c₀ = some r) (hI : Inv c₀ ps₀) (hps : ∀ p ∈ ps₀, m₀ p.1 = some p.2)
    (turn : ∀ (k : Int) t (c c' : σ) ps (u : Str → Option Value) h tk led, f k c = some c' → (∀ p ∈ news, p ∈ led) → Inv c ps →
      Fr h₀ env.locals h (fun y => if y = x then some (.int k t) else kstB (fun z => if stored.contains z then u z else m₀ z) ps y) → News h₀ env.locals h led →
      wpAny (model prog w) A (execs body env) (ListPost h₀ env.locals x stored m₀ Inv c' led { s with heap := h, toks := tk } Q) E { s with heap := h, toks := tk })
    (done : ∀ ps (u : Str → Option Value) h tk, Inv r ps → Fr h₀ env.locals h (fun y => if y = x then u y else kstB (fun z => if stored.contains z then u z else m₀ z) ps y) → News h₀ env.locals h news → Q .next { s with heap := h, toks := tk }) :
    wpAny (model prog w) A (pyIter (.ref l)) (fun it s₂ => LoopAtV prog w A h₀ env x body Q E it s₂) E s := by
  have hml := N _ hm
  have hls : s.heap.IsList l vs.toArray := ⟨_, hml.1, rfl, _, rfl⟩
  have hlt : l < s.heap.objs.size := Heap.lt_size hml.1
  have hne : l ≠ s.heap.objs.size := Nat.ne_of_lt hlt
  refine wpAny_pyIter_list hls ?_
  have W := Walks.list (prog := prog) (w := w) hh s.heap.objs.size l hne vs.toArray
  have hlen : vs.toArray.size = ns.length := by simp [hi.length]
  rw [hlen] at W
  have N₀ : News h₀ env.locals s.heap news := fun p hp => N p (hsub p hp)
  let J : Nat → (Str → Option Value) → List (Addr × Obj) → Prop := fun i m nx => nx = news ∧ ∃ c ps, foldO f (ns.drop i) c = some r ∧ Inv c ps ∧ (∀ p ∈ ps, m p.1 = some p.2) ∧ ∀ z, z ≠ x → (∀ p ∈ ps, z ≠ p.1) → stored.contains z = false → m z = m₀ z
  refine ⟨_, _, _, ns.length, _, _, m₀, news, J, rfl, W, ?_, ?_, ?_, ⟨⟨_, Heap.get?_push_size _ rfl, rfl, rfl⟩, hls.at fun o e => Heap.get?_push_of_some _ e⟩, F.push _, (fun p hp => ⟨Heap.get?_push_of_some _ (N₀ p hp).1, (N₀ p hp).2⟩), ⟨rfl, c₀, ps₀, by simpa using hf, hI, hps, fun _ _ _ _ => rfl⟩, ?_, ?_⟩
  · intro hmm
    rcases List.mem_cons.mp hmm with e | hmm
    · exact absurd F.ns.lt (e ▸ Nat.lt_irrefl _)
    · exact hml.2.1 (List.mem_singleton.mp hmm).symm
  · intro b hb
    rw [List.mem_singleton.mp hb]
    exact next_is_new F
  · intro p hp hI
    exact absurd (Heap.lt_size (N₀ p hp).1) ((List.mem_singleton.mp hI) ▸ Nat.lt_irrefl _)
  · rintro i v m₁ news₁ s₁ own ⟨hh', tk', rfl⟩ hin hP ⟨rfl, c, ps, hl, hI', h1, h2⟩ hoff' hown hget hall hst F₁ N₁
    have hlt' : i < ns.length := hin
    obtain ⟨t, hx⟩ := hi.get i ns[i] (by simp [hlt'])
    have hv : v = .int ns[i] t := by
      have hP' : vs[i]? = some v := by simpa using hP
      rw [hx] at hP'; exact (Option.some.inj hP').symm
    subst hv
    rw [List.drop_eq_getElem_cons hlt'] at hl
    simp only [foldO] at hl
    obtain ⟨c', hc, hl⟩ := Option.bind_eq_some_iff.mp hl
    refine wpAny_mono (turn ns[i] t c c' ps m₁ hh' tk' (own ++ news₁) hc (fun p hp => List.mem_append_right _ hp) hI' (kst_fr h1 h2 F₁) N₁) (fun f s₂ p => ?_) fun _ _ e => e
    have up : (∃ h' tk m' all ps', s₂ = { { s with heap := hh', toks := tk' } with heap := h', toks := tk } ∧ Fr h₀ env.locals h' m' ∧ News h₀ env.locals h' all ∧ (∀ p ∈ own ++ news₁, p ∈ all) ∧ Inv c' ps' ∧ (∀ p ∈ ps', m' p.1 = some p.2) ∧ ∀ z, z ≠ x → (∀ p ∈ ps', z ≠ p.1) → stored.contains z = false → m' z = m₀ z) →
        LoopStepU h₀ env.locals [s.heap.objs.size] own (J (i + 1)) { s with heap := hh', toks := tk' } .next s₂ := by
      rintro ⟨h', tk, m', all', ps', e, F', N', sub, hI'', h1', h2'⟩
      exact ⟨rfl, h', tk, m', news₁, e, F', fun p hp => N' p (sub p hp), hoff', rfl, c', ps', hl, hI'', h1', h2'⟩
    cases f with
    | ret v => exact .ret p
    | brk => exact .brk p
    | next => exact .next (up p)
    | cont => exact .cont (up p)
  · rintro h' tk m' news' F' N' _ ⟨rfl, c, ps, hl, hI', h1, h2⟩
    rw [List.drop_length] at hl
    have e : c = r := Option.some.inj hl
    subst e
    exact done ps m' h' tk hI' (kst_frOut h1 h2 F') N'
end
theorem horn_fold (r : Q2) : ∀ (ns : List Int) (c : Int × Int), foldO (fun x c => if okN x = true then some (c.1 * r.1 + x * c.2 * r.2, c.2 * r.2) else none) ns c = horn r ns c := by
  intro ns
  induction ns with
  | nil => intro c; rfl
  | cons x xs ih =>
    intro c
    simp only [foldO, horn]
    split
    · rw [Option.bind_some, ih]
    · rfl
theorem off_lt {D : Addr} {all news : List (Addr × Obj)} (l : ∀ p ∈ all, p.1 < D) (sub : ∀ p ∈ news, p ∈ all) : ∀ p ∈ news, p.1 ≠ D := fun p hp => Nat.ne_of_lt (l p (sub p hp))
noncomputable def InvTB (c : Int × Int) (ps : List (Str × Value)) : Prop := ∃ t1 t2, ps = [(Str.ofString "top", .int c.1 t1), (Str.ofString "bottom", .int c.2 t2)]
theorem rev_R {prog : Program} {w : World} {A : Around} {E : Value → Shared → Prop} {s : Shared} {h₀ : Heap} {L l : Addr} {m : Str → Option Value} {news : List (Addr × Obj)} {value slice : PySem.Expr} {vs : List Value} {ns : List Int} {n : Nat} {vk : Value} {ops : List Value} {Q : Value → Shared → Prop}
    (F : Fr h₀ L s.heap m) (N : News h₀ L s.heap news) (hm : (l, listOf (List.toArray vs) n) ∈ news) (pk : IsPart vk (some (-1))) (hi : IntsAre vs ns) (hsz : ns.length < 1000)
    (h : ∀ D ws h', Fr h₀ L h' m → News h₀ L h' ((D, listOf (List.toArray ws) 0) :: news) → (∀ p ∈ news, p.1 < D) → IntsAre ws ns.reverse → Q (.ref D) { s with heap := h' })
    (hs : subscripted slice false (.ref l) (.ref s.heap.objs.size) = operate ops (getItem (.ref l) (.ref s.heap.objs.size))) (ht : ∀ r, letTemporaryGo value (.ref l) r = pure ()) :
    wpAny (model prog w) A (subscriptTail value slice (.ref l) (.ref s.heap.objs.size)) Q E { s with heap := s.heap.push { cls := .type "slice", data := .fields #[.none, .none, vk] } } :=
  krv_ints F N (News.isList N hm) pk hi (fun D ws h' F' N' l1 i1 _ => h D ws h' F' N' l1 i1) hs ht (by have := hi.length; rw [List.size_toArray, PySem.sizeLine_eq]; omega)
section
variable {prog : Program} {w : World} {A : Around} {E : Value → Shared → Prop} {s : Shared} {value slice : Expr} {b : Addr} {q : Q2} {u : Tok} {Q : Value → Shared → Prop}
theorem sub_Q0 (T : AQ s.heap b q) (h : ∀ t, Q (.int q.1 t) s) (hs : subscripted slice false (.ref b) (.int 0 u) = operate [.ref b, .int 0 u] (getItem (.ref b) (.int 0 u))) (hg : ∀ r, letTemporaryGo value (.ref b) r = pure ()) :
    wpAny (model prog w) A (subscriptTail value slice (.ref b) (.int 0 u)) Q E s := by
  obtain ⟨t, t', T⟩ := T
  exact item_tuple T (by decide) (by decide) (j := 0) rfl rfl (h t) hs hg
theorem sub_Q1 (T : AQ s.heap b q) (h : ∀ t, Q (.int q.2 t) s) (hs : subscripted slice false (.ref b) (.int 1 u) = operate [.ref b, .int 1 u] (getItem (.ref b) (.int 1 u))) (hg : ∀ r, letTemporaryGo value (.ref b) r = pure ()) :
    wpAny (model prog w) A (subscriptTail value slice (.ref b) (.int 1 u)) Q E s := by
  obtain ⟨t, t', T⟩ := T
  exact item_tuple T (by decide) (by decide) (j := 1) rfl rfl (h t') hs hg
end

end

section
theorem low_some {x y : Int} (h0 : 0 < y) (h1 : y < 100) : lowO x y = some (lowF x y) := by
  unfold lowO
  rw [if_pos ⟨h0, by simp [okB]; omega⟩]
section
theorem regroup {h₀ h : Heap} {L : Addr} {all : List (Addr × Obj)} {ok orr : Obj} (N : News h₀ L h all) (gk : (L + 1, ok) ∈ all) (gr : (L + 1 + 1, orr) ∈ all) : News h₀ L h ((L + 1, ok) :: (L + 1 + 1, orr) :: all) := fun p hp => by
  rcases List.mem_cons.mp hp with rfl | hp
  · exact N _ gk
  · rcases List.mem_cons.mp hp with rfl | hp
    · exact N _ gr
    · exact N p hp
theorem News.pick {h₀ h : Heap} {L : Addr} {l r : List (Addr × Obj)} (N : News h₀ L h l) (k : ∀ p ∈ r, p ∈ l) : News h₀ L h r := fun p hp => N p (k p hp)
theorem pick_app {x l r : List (Addr × Obj)} (k : ∀ p ∈ r, p ∈ l) : ∀ p ∈ x ++ r, p ∈ x ++ l := fun p hp => (List.mem_append.mp hp).elim (fun h => List.mem_append_left _ h) fun h => List.mem_append_right _ (k p h)
theorem pick_cons {x : Addr × Obj} {l r : List (Addr × Obj)} (k : ∀ p ∈ r, p ∈ l) : ∀ p ∈ x :: r, p ∈ x :: l := fun p hp => (List.mem_cons.mp hp).elim (fun h => h ▸ List.mem_cons_self) fun h => List.mem_cons_of_mem _ (k p h)
theorem pick_skip {x : Addr × Obj} {l r : List (Addr × Obj)} (k : ∀ p ∈ r, p ∈ l) : ∀ p ∈ r, p ∈ x :: l := fun p hp => List.mem_cons_of_mem _ (k p hp)
theorem prune7 {h₀ h : Heap} {L : Addr} {e a1 a2 a3 a4 a5 a6 a7 : Addr × Obj} {nx r : List (Addr × Obj)} (N : News h₀ L h (e :: (nx ++ a1 :: a2 :: a3 :: a4 :: a5 :: a6 :: a7 :: r))) : News h₀ L h (e :: (nx ++ r)) :=
  News.pick N (pick_cons (pick_app (pick_skip (pick_skip (pick_skip (pick_skip (pick_skip (pick_skip (pick_skip fun _ h => h)))))))))
theorem prune9 {h₀ h : Heap} {L : Addr} {e a1 a2 a3 a4 a5 a6 a7 b1 b2 b3 b4 b5 b6 : Addr × Obj} {nx ny r : List (Addr × Obj)} (N : News h₀ L h (e :: (nx ++ a1 :: a2 :: a3 :: a4 :: a5 :: a6 :: a7 :: b1 :: b2 :: b3 :: (ny ++ b4 :: b5 :: b6 :: r)))) : News h₀ L h (e :: (nx ++ b1 :: (ny ++ b5 :: r))) :=
  News.pick N (pick_cons (pick_app (pick_skip (pick_skip (pick_skip (pick_skip (pick_skip (pick_skip (pick_skip (pick_cons (pick_skip (pick_skip (pick_app (pick_skip (pick_cons (pick_skip fun _ h => h))))))))))))))))

set_option maxHeartbeats 4000000 in
theorem law_holds : PySem.Challenge.rw_sa0091_01.Holds := hd (by
  k_with_none
  k_with "newList" => (k_here; k_dflt (refine newList_V (by k_asm) (by k_asm) (by (simp only [List.length_cons, List.length_nil]; omega)) ?_); intro D9 h9 F9 N9 l9; clear l9; (try k_sweep); (try dsimp only); (try k_fold))
  k_with "newTuple" => (k_here; (with_reducible show wpAny _ _ (newTuple [Value.int _ _, Value.int _ _]) _ _ _); k_dflt (refine newTuple_R (by k_asm) (by k_asm) ?_); intro D9 c9 h9 F9 N9 l9 r9; (try ((with_reducible rename Grown _ _ _ => gX); (have G9 := Grown.consN N9 gX l9 rfl); clear gX)); clear l9; (try k_sweep); (try dsimp only); (try k_fold))
  k_with "newTuple" => (k_here; (with_reducible show wpAny _ _ (newTuple [Value.ref _, Value.ref _]) _ _ _); k_dflt (refine newTuple_V (by k_asm) (by k_asm) (by decide) ?_); intro D9 c9 h9 F9 N9 l9; clear l9; (try k_sweep); (try dsimp only); (try k_fold))
  k_with "binaryOp Mult ref int" => (k_here; k_dflt (refine' mul_R ?zzk1 ?zzk2 ?zzk3 ?zzk4 ?zzk5 ?_; (case zzk1 => k_asm); (case zzk2 => k_asm); (case zzk3 => (with_reducible kcf_m)); (case zzk4 => first | assumption | omega | decide); (case zzk5 => first | assumption | omega | decide)); intro D9 h9 F9 N9 l9; (try k_sweep); (try dsimp only); (try k_fold))
  k_with "binaryOp Add ref ref" => (k_here; k_dflt (refine' add_R ?zzk1 ?zzk2 ?zzk3 ?zzk4 ?zzk5 ?_; (case zzk1 => k_asm); (case zzk2 => k_asm); (case zzk3 => (with_reducible kcf_m)); (case zzk4 => (with_reducible kcf_m)); (case zzk5 => ((try simp only [List.length_cons, List.length_nil, List.length_append, List.length_replicate, List.length_drop]); first | assumption | exact lt_ble (by rfl) | omega))); intro D9 h9 F9 N9 l9; (try k_sweep); (try dsimp only); (try k_fold))
  k_with "subscriptTail" => (k_here; (with_reducible show wpAny _ _ (subscriptTail (PySem.Expr.Name _ _) (PySem.Expr.Slice (some _) none none _) (Value.ref _) (Value.ref _)) _ _ _); k_dflt (refine' slice1_R (s := ⟨_, _, _, _, _⟩) ?zzF ?zzN ?zzm ?zzp ?zzq ?zzc ?_ ?zzs ?zzt; (case zzF => k_asm); (case zzN => k_asm); (case zzm => (with_reducible kcf_m)); (case zzp => kmk_part); (case zzq => kmk_part); (case zzc => omega); (case zzs => with_unfolding_all rfl); (case zzt => kmk_pure)); intro D9 h9 F9 N9 l9; clear l9; (try k_sweep); (try dsimp only); (try k_fold))
  k_with "subscriptTail Name Slice ref ref" => (k_here; (with_reducible show wpAny _ _ (subscriptTail (PySem.Expr.Name _ _) (PySem.Expr.Slice (some _) none none _) (Value.ref _) (Value.ref _)) _ _ _); k_dflt (refine' slice1_R (s := ⟨_, _, _, _, _⟩) ?zzF ?zzN ?zzm ?zzp ?zzq ?zzc ?_ ?zzs ?zzt; (case zzF => k_asm); (case zzN => k_asm); (case zzm => (with_reducible kcf_m)); (case zzp => kmk_part); (case zzq => kmk_part); (case zzc => omega); (case zzs => with_unfolding_all rfl); (case zzt => kmk_pure)); intro D9 h9 F9 N9 l9; clear l9; (try k_sweep); (try dsimp only); (try k_fold))
  k_with "eval Name" => (k_here; (with_reducible show wpAny _ _ (eval (Expr.Name _ _) (envOfC _ _ _ _ _)) _ _ _); k_dflt (refine nameX_C (by k_asm) (by rfl) (by (with_reducible kcf_m)) (by k_asm) ?_))
  k_with "eval ListComp" => (k_here; k_dflt (refine LCg.ListComp_U (F₀ := by k_asm) (by with_unfolding_all rfl) (by decide) (by rfl) (by decide) (by rfl) ?_))
  k_with "eval Name" => (k_here; (with_reducible show wpAny _ _ (eval (Expr.Name _ _) (compEnvC _ _ _ _)) _ _ _); k_dflt (refine kcf_cell (by k_asm) (by rfl) (by (with_reducible kcf_m)) (by k_asm) ?_))
  k_with "subscriptTail" => (k_here; (with_reducible show wpAny _ _ (subscriptTail _ _ (Value.ref _) (Value.int _ _)) _ _ _); k_dflt (refine' ksa_sub ?zzk1 ?zzk2 ?zzkA ?zzk3 ?zzk4 ?zzk5 ?_ ?zzk6; (case zzk1 => k_asm); (case zzk2 => (with_reducible kcf_m)); (case zzkA => with_reducible assumption); (case zzk3 => omega); (case zzk4 => omega); (case zzk5 => omega); (case zzk6 => with_unfolding_all rfl)); intro t9; (try dsimp only); (try k_fold))
  k_with "subscriptTail" => (k_here; (with_reducible show wpAny _ _ (subscriptTail _ _ (Value.ref _) (Value.int _ _)) _ _ _); k_dflt (refine' sub_I ?zzk1 ?zzk2 ?zzkA ?zzk3 ?zzk4 ?zzk5 ?_ ?zzk6; (case zzk1 => k_asm); (case zzk2 => (with_reducible kcf_m)); (case zzkA => with_reducible assumption); (case zzk3 => omega); (case zzk4 => omega); (case zzk5 => omega); (case zzk6 => with_unfolding_all rfl)); intro b9 ws9 n9 hm9 hi9; (try dsimp only); (try k_fold))
  k_with "call ref" => (k_here; k_dflt (refine' con_use (con_fact _ ?zzh0 ?zzh1) ?zzk1 ?zzk2 ?zzk3 ?zzk4 ?zzk5 ?zzkK ?zzkp ?zzkd ?zzku ?_; (case zzk1 => k_asm); (case zzk2 => k_asm); (case zzk3 => k_asm); (case zzk4 => k_asm); (case zzk5 => k_asm); (case zzkK => first | exact rfl | assumption); (case zzkp => exact True.intro); (case zzkd => (first | exact room_lt hdp (by rfl) | exact room_lt0 hdp | exact lt_ble (by rfl) | ktr_room)); (case zzku => (first | exact unit_lt hun (by rfl) | exact lt_ble (by rfl) | ktr_units)); (case zzh0 => omega); (case zzh1 => omega)); intro r9 h9 tk9 k9 F9 N9 e9; obtain ⟨t9, e9⟩ := e9; subst e9; clear k9; (try k_sweep); (try dsimp only); (try k_fold))
  k_with "call ref" => (k_here; k_dflt (refine' con_useR (con_low _ _ _ _ ?zzhq) ?zzk1 ?zzk2 ?zzk3 ?zzk4 ?zzk5 ?zzkK ?zzkp ?zzkd ?zzku ?_; (case zzk1 => k_asm); (case zzk2 => k_asm); (case zzk3 => k_asm); (case zzk4 => k_asm); (case zzk5 => k_asm); (case zzkK => first | exact rfl | assumption); (case zzkp => exact True.intro); (case zzkd => (first | exact room_lt hdp (by rfl) | exact room_lt0 hdp | exact lt_ble (by rfl) | ktr_room)); (case zzku => (first | exact unit_lt hun (by rfl) | exact lt_ble (by rfl) | ktr_units)); (case zzhq => with_reducible assumption)); intro D9 t9 u9 c9 h9 tk9 F9 N9 l9 r9; (try ((with_reducible rename Grown _ _ _ => gX); (have G9 := Grown.consN N9 gX l9 rfl); clear gX)); clear l9; (try k_sweep); (try dsimp only); (try k_fold))
  k_with "compareOp NotEq ref ref" => (k_here; k_dflt (refine' ne_S ?zzk1 ?zzk2 ?zzku ?_; (case zzk1 => exact AllR.sq (by k_asm) (by k_asm) (by k_asm) (by (with_reducible kcf_m)) (AllR.mono (by k_asm) (by (with_reducible kcf_all)))); (case zzk2 => exact AllR.sq (by k_asm) (by k_asm) (by k_asm) (by (with_reducible kcf_m)) (AllR.mono (by k_asm) (by (with_reducible kcf_all)))); (case zzku => (first | exact unit_lt hun (by rfl) | exact lt_ble (by rfl) | ktr_units))); (try dsimp only); (try k_fold))
  k_with "storeName" => (k_here; k_dflt (refine' store_keep _ ?zzk1 ?zzk2 (by rfl) ?zzhm ?zzhd ?zzhs ?zzhn ?_; (case zzhn => with_reducible assumption); (case zzk1 => k_asm); (case zzk2 => k_asm); (case zzhm => (with_reducible kcf_m)); (case zzhd => k_asm); (case zzhs => (with_reducible kcf_all))); intro h9 o9 F9 N9 d9; (try k_sweep); (try dsimp only); (try k_fold))
  k_with "call type:range" => ((rename Fr _ _ _ _ => F'); (rename News _ _ _ _ => N'); (with_unfolding_all refine range1_rows F' N' ?_; intro _ _ _ _ _ _ _ _ _))
  k_with "subscriptTail" => (k_here; (with_reducible show wpAny _ _ (subscriptTail (PySem.Expr.Name _ _) (PySem.Expr.Slice none none (some _) _) (Value.ref _) (Value.ref _)) _ _ _); k_dflt (refine' rev_R (s := ⟨_, _, _, _, _⟩) ?zzF ?zzN ?zzm ?zzk ?zzi ?zzz ?_ ?zzs ?zzt; (case zzF => k_asm); (case zzN => k_asm); (case zzm => (with_reducible kcf_m)); (case zzk => exact IsPart.int _ _); (case zzi => with_reducible assumption); (case zzz => omega); (case zzs => with_unfolding_all rfl); (case zzt => kmk_pure)); intro D9 ws9 h9 F9 N9 l9 i9; (try k_sweep); (try dsimp only); (try k_fold))
  k_with "subscriptTail Name Slice ref ref" => (k_here; (with_reducible show wpAny _ _ (subscriptTail (PySem.Expr.Name _ _) (PySem.Expr.Slice none none (some _) _) (Value.ref _) (Value.ref _)) _ _ _); k_dflt (refine' rev_R (s := ⟨_, _, _, _, _⟩) ?zzF ?zzN ?zzm ?zzk ?zzi ?zzz ?_ ?zzs ?zzt; (case zzF => k_asm); (case zzN => k_asm); (case zzm => (with_reducible kcf_m)); (case zzk => exact IsPart.int _ _); (case zzi => with_reducible assumption); (case zzz => omega); (case zzs => with_unfolding_all rfl); (case zzt => kmk_pure)); intro D9 ws9 h9 F9 N9 l9 i9; (try k_sweep); (try dsimp only); (try k_fold))
  k_with "newList" => (k_here; (with_reducible show wpAny _ _ (newList []) _ _ _); k_dflt (refine newList_R (by k_asm) (by k_asm) ?_); intro D9 h9 F9 N9 l9; (try k_sweep); (try dsimp only); (try k_fold))
  k_with "call builtin:list.append" => (k_here; k_dflt (refine' append_F ?zzk1 ?zzk2 ?zzk3 ?zzk4 ?_; (case zzk1 => k_asm); (case zzk2 => k_asm); (case zzk3 => (with_reducible kcf_m)); (case zzk4 => omega)); intro h9 F9 N9; (try k_sweep); (try dsimp only); (try k_fold))
  k_with "getMethod ref" => (k_here; (with_reducible show wpAny _ _ (getMethod (Value.ref _) (PySem.Str.ofString "append") _) _ _ _); k_dflt (refine' kl_method ?zzN ?zzm PySem.F.slot_list_append PySem.F.type_list_append ?_; (case zzN => k_asm); (case zzm => (with_reducible kcf_m))))
  k_with "compareOp Eq ref ref" => (k_here; k_dflt (refine' eq_S ?zzk1 ?zzk2 ?zzku ?_; (case zzk1 => exact AllR.sq (by k_asm) (by k_asm) (by k_asm) (by (with_reducible kcf_m)) (AllR.mono (by k_asm) (by (with_reducible kcf_all)))); (case zzk2 => exact AllR.sq (by k_asm) (by k_asm) (by k_asm) (by (with_reducible kcf_m)) (AllR.mono (by k_asm) (by (with_reducible kcf_all)))); (case zzku => (first | exact unit_lt hun (by rfl) | exact lt_ble (by rfl) | ktr_units))); (try dsimp only); (try k_fold))
  k_with "subscriptTail" => (k_here; (with_reducible show wpAny _ _ (subscriptTail _ _ (Value.ref _) (Value.int 0 _)) _ _ _); k_dflt (refine' sub_Q0 ?zzk1 ?_ ?zzs ?zzt; (case zzk1 => exact RQ.at (by k_asm) (by k_asm) (by k_asm) (RQ.mono (by with_reducible assumption) (by (with_reducible kcf_all)))); (case zzs => with_unfolding_all rfl); (case zzt => intro _; with_unfolding_all rfl)); intro t9; (try dsimp only); (try k_fold))
  k_with "subscriptTail" => (k_here; (with_reducible show wpAny _ _ (subscriptTail _ _ (Value.ref _) (Value.int 1 _)) _ _ _); k_dflt (refine' sub_Q1 ?zzk1 ?_ ?zzs ?zzt; (case zzk1 => exact RQ.at (by k_asm) (by k_asm) (by k_asm) (RQ.mono (by with_reducible assumption) (by (with_reducible kcf_all)))); (case zzs => with_unfolding_all rfl); (case zzt => intro _; with_unfolding_all rfl)); intro t9; (try dsimp only); (try k_fold))
  k_with "subscriptTail" => (k_here; (with_reducible show wpAny _ _ (subscriptTail _ (PySem.Expr.Slice _ _ _ _) (Value.ref _) (Value.ref _)) _ _ _); (fail_if_success (with_reducible show wpAny _ _ (subscriptTail (PySem.Expr.Name _ _) _ _ _) _ _ _)); k_dflt (refine kba_turn (value' := PySem.Expr.Name (PySem.Str.ofString "_") ⟨0, 0, 0, 0⟩) (fun _ => rfl) ?_))
  k_go0
  rename Shared => S1
  all_goals try k_fold
  repeat' (first | (k_unfold; (try dsimp only)) | ((fail_if_success (with_reducible show wpAny _ _ (PySem.call (Value.ref 184) _) _ _ _)); first | walk1 | (dsimp only; walk1)))
  (rename Fr _ _ _ _ => lF')
  generalize bindL _ _ _ = mB at lF'
  have hl5 : ys.length ≤ 5 := by first | exact Nat.le_trans (Nat.le_of_eq ‹ys.length = (List.take 5 _).length›) (List.length_take_le _ _) | ((simp only [List.length_map] at *); exact Nat.le_trans (Nat.le_of_eq ‹ys.length = (List.take 5 _).length›) (List.length_take_le _ _)) | ((simp only [List.length_map] at *); omega)
  k_dflt (refine' take_use con_take2 ?k1 ?k2 ?k3 ?k4 ?k5 ?kK ?hB ?hS ?hi ?hl ?c0 ?c1 ?gk ?gr ?dk ?dr ?kd ?ku ?_; (case k1 => k_asm); (case k2 => k_asm); (case k3 => k_asm); (case k4 => k_asm); (case k5 => k_asm); (case kK => first | exact rfl | assumption); (case hB => (with_reducible kcf_m)); (case hS => (with_reducible kcf_m)); (case hi => assumption); (case hl => first | assumption | exact Nat.le_trans (Nat.le_of_eq (by k_asm)) (List.length_take_le _ _) | ((simp only [List.length_map] at *); omega) | omega); (case c0 => omega); (case c1 => omega); (case gk => (with_reducible kcf_m)); (case gr => (with_reducible kcf_m)); (case dk => assumption); (case dr => assumption); (case kd => (first | exact room_lt hdp (by rfl) | exact room_lt0 hdp | exact lt_ble (by rfl) | ktr_room)); (case ku => (first | exact unit_lt hun (by rfl) | exact lt_ble (by rfl) | ktr_units)))
  intro v1 tv1 tc1 nb1 ys1 ns1 nm1 ht1 tk1 lo1 hi1 iv1 lv1 FT1 NT1
  k_sweep
  (try dsimp only)
  (try k_fold)
  repeat' (first | (k_unfold; (try dsimp only)) | ((fail_if_success (with_reducible show wpAny _ _ (PySem.call (Value.ref 184) _) _ _ _)); first | walk1 | (dsimp only; walk1)))
  k_dflt (refine' take_use con_take3 ?k1 ?k2 ?k3 ?k4 ?k5 ?kK ?hB ?hS ?hi ?hl ?c0 ?c1 ?gk ?gr ?dk ?dr ?kd ?ku ?_; (case k1 => k_asm); (case k2 => k_asm); (case k3 => k_asm); (case k4 => k_asm); (case k5 => k_asm); (case kK => first | exact rfl | assumption); (case hB => (with_reducible kcf_m)); (case hS => (with_reducible kcf_m)); (case hi => assumption); (case hl => first | assumption | exact Nat.le_trans (Nat.le_of_eq (by k_asm)) (List.length_take_le _ _) | ((simp only [List.length_map] at *); omega) | omega); (case c0 => omega); (case c1 => omega); (case gk => (with_reducible kcf_m)); (case gr => (with_reducible kcf_m)); (case dk => assumption); (case dr => assumption); (case kd => (first | exact room_lt hdp (by rfl) | exact room_lt0 hdp | exact lt_ble (by rfl) | ktr_room)); (case ku => (first | exact unit_lt hun (by rfl) | exact lt_ble (by rfl) | ktr_units)))
  intro v2 tv2 tc2 nb2 ys2 ns2 nm2 ht2 tk2 lo2 hi2 iv2 lv2 FT2 NT2
  k_sweep
  (try dsimp only)
  (try k_fold)
  repeat' (first | (k_unfold; (try dsimp only)) | ((fail_if_success (with_reducible show wpAny _ _ (PySem.call (Value.ref 184) _) _ _ _)); first | walk1 | (dsimp only; walk1)))
  k_dflt (refine' take_use con_take9 ?k1 ?k2 ?k3 ?k4 ?k5 ?kK ?hB ?hS ?hi ?hl ?c0 ?c1 ?gk ?gr ?dk ?dr ?kd ?ku ?_; (case k1 => k_asm); (case k2 => k_asm); (case k3 => k_asm); (case k4 => k_asm); (case k5 => k_asm); (case kK => first | exact rfl | assumption); (case hB => (with_reducible kcf_m)); (case hS => (with_reducible kcf_m)); (case hi => assumption); (case hl => first | assumption | exact Nat.le_trans (Nat.le_of_eq (by k_asm)) (List.length_take_le _ _) | ((simp only [List.length_map] at *); omega) | omega); (case c0 => omega); (case c1 => omega); (case gk => (with_reducible kcf_m)); (case gr => (with_reducible kcf_m)); (case dk => assumption); (case dr => assumption); (case kd => (first | exact room_lt hdp (by rfl) | exact room_lt0 hdp | exact lt_ble (by rfl) | ktr_room)); (case ku => (first | exact unit_lt hun (by rfl) | exact lt_ble (by rfl) | ktr_units)))
  intro v3 tv3 tc3 nb3 ys3 ns3 nm3 ht3 tk3 lo3 hi3 iv3 lv3 FT3 NT3
  k_sweep
  (try dsimp only)
  (try k_fold)
  repeat' (first | (k_unfold; (try dsimp only)) | ((fail_if_success (with_reducible show wpAny _ _ (PySem.call (Value.ref 184) _) _ _ _)); first | walk1 | (dsimp only; walk1)))
  k_dflt (refine' take_use con_take3 ?k1 ?k2 ?k3 ?k4 ?k5 ?kK ?hB ?hS ?hi ?hl ?c0 ?c1 ?gk ?gr ?dk ?dr ?kd ?ku ?_; (case k1 => k_asm); (case k2 => k_asm); (case k3 => k_asm); (case k4 => k_asm); (case k5 => k_asm); (case kK => first | exact rfl | assumption); (case hB => (with_reducible kcf_m)); (case hS => (with_reducible kcf_m)); (case hi => assumption); (case hl => first | assumption | exact Nat.le_trans (Nat.le_of_eq (by k_asm)) (List.length_take_le _ _) | ((simp only [List.length_map] at *); omega) | omega); (case c0 => omega); (case c1 => omega); (case gk => (with_reducible kcf_m)); (case gr => (with_reducible kcf_m)); (case dk => assumption); (case dr => assumption); (case kd => (first | exact room_lt hdp (by rfl) | exact room_lt0 hdp | exact lt_ble (by rfl) | ktr_room)); (case ku => (first | exact unit_lt hun (by rfl) | exact lt_ble (by rfl) | ktr_units)))
  intro v4 tv4 tc4 nb4 ys4 ns4 nm4 ht4 tk4 lo4 hi4 iv4 lv4 FT4 NT4
  k_sweep
  (try dsimp only)
  (try k_fold)
  repeat' (first | (k_unfold; (try dsimp only)) | ((fail_if_success (with_reducible show wpAny _ _ (PySem.call (Value.ref 191) _) _ _ _)); first | walk1 | (dsimp only; walk1)))
  k_dflt (refine' con_useR (con_low _ _ _ _ (low_some (by omega) (by omega))) ?k1 ?k2 ?k3 ?k4 ?k5 ?kK ?kp ?kd ?ku ?_; (case k1 => k_asm); (case k2 => k_asm); (case k3 => k_asm); (case k4 => k_asm); (case k5 => k_asm); (case kK => first | exact rfl | assumption); (case kp => exact True.intro); (case kd => (first | exact room_lt hdp (by rfl) | exact room_lt0 hdp | exact lt_ble (by rfl) | ktr_room)); (case ku => (first | exact unit_lt hun (by rfl) | exact lt_ble (by rfl) | ktr_units)))
  intro Dr tr ur cr hr' tkr Fr9 Nr lr rr
  clear lr
  k_sweep
  (try dsimp only)
  (try (with_reducible show wpAny _ _ _ _ _ _))
  (try k_fold)
  repeat' (first | (k_unfold; (try dsimp only)) | ((fail_if_success (with_reducible show wpAny _ _ (PySem.call (Value.ref 196) _) _ _ _)); first | walk1 | (dsimp only; walk1)))
  (rename Frag.In _ _ => xIn)
  have R2 := twoR _ xIn
  obtain ⟨size, hsz, hs45⟩ : ∃ size : Nat, 5 - v1 = (size : Int) ∧ (size = 4 ∨ size = 5) := ⟨(5 - v1).toNat, by omega, by omega⟩
  obtain ⟨r1, r2, hr1, hr2, LA⟩ := lawA_of (k := 1 + v2) hs45 (by omega) (by omega)
  have LB := lawB_of hr1 hs45 lo3 hi3 lo4 hi4
  obtain ⟨e, o, t1, t2, he, hel, ho, hol, ht1, ht2, hw2, hw1⟩ := LA.ok
  obtain ⟨p, hp, hdue, hrb1, hrb2, hrb3⟩ := LB.ok
  clear LA LB
  have hs4 : 4 ≤ size := by clear hel hol; omega
  have hs5 : size ≤ 5 := by clear hel hol; omega
  clear lo1 hi1 lv1 lv2 lv3 lv4
  have hs6 : size < 64 := Nat.lt_of_le_of_lt hs5 (by decide)
  have hs7 : size - 2 + 1 + 1 < 64 := by clear hel hol; omega
  have hs8 : (0 : Int) ≤ (size : Int) - 2 := by clear hel hol; omega
  have hs9 : (size : Int) - 2 < 1000 := by clear hel hol; omega
  have hs2 : ((size : Int) - 2).toNat = size - 2 := Int.toNat_sub size 2
  have hs0 : 0 + 1 + 1 + ((size : Int) - 2).toNat < 1000 := by rw [hs2]; clear hel hol hs2; omega
  (rename Fr _ _ _ _ => lF')
  rw [hsz] at lF' ⊢
  k_dflt (refine' con_useI (con_numI true _ rfl hr2 (by omega) (by omega)) ?k1 ?k2 ?k3 ?k4 ?k5 ?kK ?kp ?kd ?ku ?_; (case k1 => k_asm); (case k2 => k_asm); (case k3 => k_asm); (case k4 => k_asm); (case k5 => k_asm); (case kK => first | exact rfl | assumption); (case kp => exact True.intro); (case kd => (first | exact room_lt hdp (by rfl) | exact room_lt0 hdp | exact lt_ble (by rfl) | ktr_room)); (case ku => (first | exact unit_lt hun (by rfl) | exact lt_ble (by rfl) | ktr_units)))
  intro D2 n2 vs2 nx2 h2 tk2 F2 N2 A2
  k_sweep
  (try dsimp only)
  (try (with_reducible show wpAny _ _ _ _ _ _))
  (try k_fold)
  repeat' (first | (k_unfold; (try dsimp only)) | ((fail_if_success (with_reducible show wpAny _ _ (PySem.call (Value.ref 196) _) _ _ _)); first | walk1 | (dsimp only; walk1)))
  k_dflt (refine' con_useI (con_numI false _ rfl hr1 (by omega) (by omega)) ?k1 ?k2 ?k3 ?k4 ?k5 ?kK ?kp ?kd ?ku ?_; (case k1 => k_asm); (case k2 => k_asm); (case k3 => k_asm); (case k4 => k_asm); (case k5 => k_asm); (case kK => first | exact rfl | assumption); (case kp => exact True.intro); (case kd => (first | exact room_lt hdp (by rfl) | exact room_lt0 hdp | exact lt_ble (by rfl) | ktr_room)); (case ku => (first | exact unit_lt hun (by rfl) | exact lt_ble (by rfl) | ktr_units)))
  intro D1 n1 vs1 nx1 h1 tk1 F1 N1 A1
  k_sweep
  (try dsimp only)
  (try (with_reducible show wpAny _ _ _ _ _ _))
  (try k_fold)
  repeat' (first | (k_unfold; (try dsimp only)) | ((fail_if_success (with_reducible show wpAny _ _ (PySem.call (Value.ref 156) _) _ _ _)); first | walk1 | (dsimp only; walk1)))
  k_dflt (refine' con_useS (con_sexp _ _ _ he ?h0 ?h3) ?k1 ?k2 ?k3 ?k4 ?k5 ?kK ?kp ?kd ?ku ?_; (case k1 => k_asm); (case k2 => k_asm); (case k3 => k_asm); (case k4 => k_asm); (case k5 => k_asm); (case kK => first | exact rfl | assumption); (case kp => exact AllR.sq (by k_asm) (by k_asm) R2 (by (with_reducible kcf_m)) (front_all (RQ.mono (by k_asm) (by (with_reducible kcf_all))) (RQ.mono (by k_asm) (by (with_reducible kcf_all))) (RQ.mono (by k_asm) (by (with_reducible kcf_all))) hs2)); (case kd => (first | exact room_lt hdp (by rfl) | exact room_lt0 hdp | exact lt_ble (by rfl) | ktr_room)); (case ku => (first | exact unit_lt hun (by rfl) | exact lt_ble (by rfl) | ktr_units)); (case h0 => (simp [frontF]; done)); (case h3 => (simp [frontF]; first | exact hs7 | omega)))
  intro De ne vse nxe he' tke Fe Ne Ae Te Oe de
  have hvse := Ae.1
  (rename News _ _ _ _ => lN')
  have lN2 := prune7 lN'
  clear lN' Te Oe de
  k_sweep
  (try dsimp only)
  (try (with_reducible show wpAny _ _ _ _ _ _))
  (try k_fold)
  repeat' (first | (k_unfold; (try dsimp only)) | ((fail_if_success (with_reducible show wpAny _ _ (PySem.call (Value.ref 163) _) _ _ _)); first | walk1 | (dsimp only; walk1)))
  k_dflt (refine' con_useS (con_slog _ _ _ ho ?h0 ?h3) ?k1 ?k2 ?k3 ?k4 ?k5 ?kK ?kp ?kd ?ku ?_; (case k1 => k_asm); (case k2 => k_asm); (case k3 => k_asm); (case k4 => k_asm); (case k5 => k_asm); (case kK => first | exact rfl | assumption); (case kp => exact AllR.sq (by k_asm) (by k_asm) R2 (by (with_reducible kcf_m)) (oneX_all (RQ.mono (by k_asm) (by (with_reducible kcf_all))) (RQ.mono (by k_asm) (by (with_reducible kcf_all))) (RQ.mono (by k_asm) (by (with_reducible kcf_all))) hs2)); (case kd => (first | exact room_lt hdp (by rfl) | exact room_lt0 hdp | exact lt_ble (by rfl) | ktr_room)); (case ku => (first | exact unit_lt hun (by rfl) | exact lt_ble (by rfl) | ktr_units)); (case h0 => (simp [oneXF]; done)); (case h3 => (simp [oneXF]; first | exact hs7 | omega)))
  intro Do no vso nxo ho' tko Fo No Ao To Oo do9
  have hvso := Ao.1
  (rename News _ _ _ _ => lN')
  have lN2 := prune9 lN'
  clear lN' To Oo do9
  k_sweep
  (try dsimp only)
  (try (with_reducible show wpAny _ _ _ _ _ _))
  (try k_fold)
  repeat' (first | (k_unfold; (try dsimp only)) | ((fail_if_success (with_reducible show wpAny _ _ (exec (Stmt.For _ _ _ _ _) _) _ _ _)); first | walk1 | (dsimp only; walk1)))
  (rename Fr _ _ _ _ => lF'); (rename News _ _ _ _ => lN')
  have lN2 := regroup lN' (by (with_reducible kcf_m)) (by (with_reducible kcf_m))
  clear lN'
  with_unfolding_all refine For_turns lF' ?_
  (try k_fold)
  repeat' (first | (k_unfold; (try dsimp only)) | ((fail_if_success (with_reducible show wpAny _ _ (PySem.call (Value.ref 177) _) _ _ _)); first | walk1 | (dsimp only; walk1)))
  k_dflt (refine' con_useS (con_swp ht1 ?h0 (by omega) (by omega)) ?k1 ?k2 ?k3 ?k4 ?k5 ?kK ?kp ?kd ?ku ?_; (case k1 => k_asm); (case k2 => k_asm); (case k3 => k_asm); (case k4 => k_asm); (case k5 => k_asm); (case kK => first | exact rfl | assumption); (case kp => exact AllR.sq (by k_asm) (by k_asm) R2 (by (with_reducible kcf_m)) (front2_all (RQ.mono (by k_asm) (by (with_reducible kcf_all))) (AllR.mono (by k_asm) (by (with_reducible kcf_all))))); (case kd => (first | exact room_lt hdp (by rfl) | exact room_lt0 hdp | exact lt_ble (by rfl) | ktr_room)); (case ku => (first | exact unit_lt hun (by rfl) | exact lt_ble (by rfl) | ktr_units)); (case h0 => (simp [frontQ]; first | (rw [hel]; exact hs45) | omega)))
  intro Dt1 nt1 vst1 nxt1 ht1' tkt1 Ft1 Nt1 At1 Tt1 Ot1 dt1
  k_sweep
  (try dsimp only)
  (try (with_reducible show wpAny _ _ _ _ _ _))
  (try k_fold)
  repeat' (first | (k_unfold; (try dsimp only)) | ((fail_if_success (with_reducible show wpAny _ _ (PySem.call (Value.ref 177) _) _ _ _)); first | walk1 | (dsimp only; walk1)))
  k_dflt (refine' con_useS (con_swp ht2 ?h0 (by omega) (by omega)) ?k1 ?k2 ?k3 ?k4 ?k5 ?kK ?kp ?kd ?ku ?_; (case k1 => k_asm); (case k2 => k_asm); (case k3 => k_asm); (case k4 => k_asm); (case k5 => k_asm); (case kK => first | exact rfl | assumption); (case kp => exact AllR.sq (by k_asm) (by k_asm) R2 (by (with_reducible kcf_m)) (AllR.mono (by k_asm) (by (with_reducible kcf_all)))); (case kd => (first | exact room_lt hdp (by rfl) | exact room_lt0 hdp | exact lt_ble (by rfl) | ktr_room)); (case ku => (first | exact unit_lt hun (by rfl) | exact lt_ble (by rfl) | ktr_units)); (case h0 => first | (rw [hol]; exact hs45) | omega))
  intro Dt2 nt2 vst2 nxt2 ht2' tkt2 Ft2 Nt2 At2 Tt2 Ot2 dt2
  k_sweep
  (try dsimp only)
  (try (with_reducible show wpAny _ _ _ _ _ _))
  (try k_fold)
  repeat' (first | (k_unfold; (try dsimp only)) | ((fail_if_success (with_reducible show wpAny _ _ (pyIter (Value.ref _)) _ _ _)); first | walk1 | (dsimp only; walk1)))
  (show wpAny _ _ (pyIter (Value.ref _)) _ _ _)
  trace "ITER"
  (rename Fr _ _ _ _ => lF'); (rename News _ _ _ _ => lN')
  have mD1 := but_seq (c := S1.heap.objs.size + 1 + 1) lN' (by (with_reducible kcf_m)) (by k_asm) (p := (D1, listOf (List.toArray vs1) n1)) (by (with_reducible kcf_m)) rfl
  have A1K := but_AllI (c := S1.heap.objs.size + 1 + 1) lN' (by (with_reducible kcf_m)) (by k_asm) (AllI.mono A1 (by (with_reducible kcf_all)))
  have rrK := but_R (c := S1.heap.objs.size + 1 + 1) lN' (by (with_reducible kcf_m)) (by k_asm) (RQ.mono rr (by (with_reducible kcf_all)))
  have mk := cell_keep (c := S1.heap.objs.size + 1 + 1) lN' (c' := S1.heap.objs.size + 1) (by (with_reducible kcf_m)) (by (refine neN ?_; omega))
  with_unfolding_all refine told_loop (cr := S1.heap.objs.size + 1 + 1) (size := size) (k := 1 + v2) (by rfl) lF' lN' (List.mem_cons_self) (by (with_reducible kcf_m)) (by k_asm) (told_it lN' (by (with_reducible kcf_m)) (by k_asm) (by (with_reducible kcf_m)) (by (with_reducible kcf_m)) (AllR.mono At1 (by (with_reducible kcf_all))) (by (with_reducible kcf_m)) (AllI.mono A2 (by (with_reducible kcf_all))) hw2) (told_it lN' (by (with_reducible kcf_m)) (by k_asm) (by (with_reducible kcf_m)) (by (with_reducible kcf_m)) (AllR.mono At2 (by (with_reducible kcf_all))) (by (with_reducible kcf_m)) (AllI.mono A1 (by (with_reducible kcf_all))) hw1) ?turn ?done
  case turn =>
    intro v o₁ vr₁ m₁ h tk led hled hoff hit hd₁ hm₁ F1 N1
    have F2 := fr_told hm₁ F1
    clear F1 hm₁ lF' lN'
    obtain ⟨Dt, Dw, c, n1', n2', vst, vsw, t, rows, g1, g2, gA, g3, gI, gw⟩ := hit
    have TT := tup_of N1 (List.mem_cons_of_mem _ g1)
    have gk := hled _ mk
    clear mk hled
    unfold wantF at gw
    try k_fold
    repeat' (first | (k_unfold; (try dsimp only)) | ((fail_if_success (with_reducible show LCg.CompSrc _ _ _ _ _ _ _ _ _ _ _ _ _ _)); first | walk1 | (dsimp only; walk1)))
    (rename Fr _ _ _ _ => lF'); (rename News _ _ _ _ => lN'); (rename IsRange _ _ _ _ _ _ _ _ => lR)
    have hf1 := factF_pos (n := 1 + v2)
    refine comp_src _ size t (by rfl) lF' lN' lR (by first | exact small_nat (by k_asm) | exact ⟨by decide, by decide, by omega, by omega⟩ | omega) (by first | exact nat_toNat0 _ | exact nat_toNat1 _ | exact congrArg Int.toNat (Int.sub_zero _).symm | exact congrArg Int.toNat (Int.add_sub_cancel _ _).symm | omega) gw ?t2 ?f2
    case t2 =>
      intro n tn q I oI C oC D m₂ ys nt gg h' tk' E' hn0 hn1 hc hC hx F3 N3
      clear lF' lN' lR gw TT
      (try dsimp only at hc)
      split at hc
      case isFalse => cases hc
      rename_i hlk
      unfold rowAt at hc hlk
      have hf2 := factF_pos (n := n)
      have hn5 : n ≤ 5 := by clear hel hol hvse hvso; omega
      clear hel hol hvse hvso
      have hnr : n < rows.length := by
        by_cases hh : n < rows.length
        · exact hh
        · exfalso
          have e0 : rows.getD n.toNat [] = [] := by rw [List.getD_eq_getElem?_getD, List.getElem?_eq_none ((Int.le_toNat hn0).mpr (Int.not_lt.mp hh))]; rfl
          rw [e0] at hlk; simp at hlk; omega
      have G3 := Grown.ofNews N3
      (try dsimp only)
      (try (with_reducible show wpAny _ _ _ _ _ _))
      (try k_fold)
      k_steps
      exact elt_endG (by k_asm) rfl (by k_asm) (by k_asm) (RQ.mono (by k_asm) (by (with_reducible kcf_all)))
    case f2 =>
      intro gg ys nt hA hT
      unfold LCg.FinE
      intro D h' tk' F3 N3 o1
      clear lF' lN' lR
      (try dsimp only)
      (try (with_reducible show wpAny _ _ _ _ _ _))
      (try k_fold)
      k_steps
      exact told_end rfl (by k_asm) (by k_asm) (by (with_reducible kcf_m)) (by k_asm) (by (with_reducible kcf_all)) (fun z hz => by simp only [if_neg hz])
  case done =>
    intro o₁ m₁ h tk hm₁ F1 N1
    have F2 := fr_told hm₁ F1
    clear F1 hm₁ lF' lN'
    (try dsimp only)
    (try (with_reducible show wpAny _ _ _ _ _ _))
    (try k_fold)
    repeat' (first | (k_unfold; (try dsimp only)) | ((fail_if_success (with_reducible show wpAny _ _ (pyIter (Value.ref _)) _ _ _)); first | walk1 | (dsimp only; walk1)))
    (rename Fr _ _ _ _ => lF'); (rename News _ _ _ _ => lN'); (rename IsRange _ _ _ _ _ _ _ _ => lR)
    unfold dueF at hdue
    with_unfolding_all refine' for_grow (x := Str.ofString "n") _ p _ [Str.ofString "top", Str.ofString "bottom", Str.ofString "number"] lR lF' lN' (by rfl) (by first | exact small_nat (by k_asm) | exact ⟨by decide, by decide, by omega, by omega⟩ | omega) (by first | exact nat_toNat0 _ | exact nat_toNat1 _ | exact congrArg Int.toNat (Int.sub_zero _).symm | exact congrArg Int.toNat (Int.add_sub_cancel _ _).symm | omega) hdue (by (with_reducible kcf_m)) ?hsub (by k_asm) ?turnG ?doneG
    case hsub => (with_reducible kcf_all)
    case turnG =>
      intro k' t' c c' vs n nt u h tk led hk0 hk1 hc hled hA hT hO hD hDn F3 N3
      clear lF' lN' lR hdue
      have q1 := hled _ (List.mem_cons_of_mem _ mD1)
      have q2 := A1K.mono (fun p hp => hled p (List.mem_cons_of_mem _ hp))
      have q3 := rrK.mono (fun p hp => hled p (List.mem_cons_of_mem _ hp))
      clear mD1 A1K rrK hled mk
      have hk5 : k' ≤ 5 := Int.le_trans (Int.le_of_lt hk1) (Int.ofNat_le.mpr hs5)
      clear hel hol hvse hvso
      (try dsimp only at hc)
      split at hc
      case isFalse => cases hc
      rename_i hg
      obtain ⟨hg1, hg2, hg3⟩ := hg
      unfold rowAt at hc hg3
      have hvl := hA.1
      obtain ⟨c2, hc2, hc⟩ := Option.bind_eq_some_iff.mp hc
      obtain ⟨q, hq, hc⟩ := Option.map_eq_some_iff.mp hc
      subst hc
      have hf := factF_pos (n := k')
      have B3 := led_is N3
      (try dsimp only)
      (try (with_reducible show wpAny _ _ _ _ _ _))
      (try k_fold)
      repeat' (first | (k_unfold; (try dsimp only)) | ((fail_if_success (with_reducible show wpAny _ _ (exec (Stmt.For _ _ _ _ _) _) _ _ _)); first | walk1 | (dsimp only; walk1)))
      (rename Fr _ _ _ _ => lF')
      refine For_invVF lF' (by rfl) (by rfl) ?_
      (try k_fold)
      repeat' (first | (k_unfold; (try dsimp only)) | ((fail_if_success (with_reducible show wpAny _ _ (pyIter (Value.ref _)) _ _ _)); first | walk1 | (dsimp only; walk1)))
      (rename Fr _ _ _ _ => lF'); (rename News _ _ _ _ => lN')
      with_unfolding_all refine' for_foldL (x := Str.ofString "number") _ c2 (0, 1) [] InvTB _ B3 (by rfl) lF' lN' (List.mem_cons_self) (by k_asm) (by (with_reducible kcf_all)) (off_lt (by k_asm) (by (with_reducible kcf_all))) ((horn_fold _ _ _).trans hc2) ⟨_, _, rfl⟩ (List.forall_mem_cons.mpr ⟨rfl, List.forall_mem_singleton.mpr rfl⟩) ?turnH ?doneH
      case turnH =>
        intro num tn d d' ps u2 h2 tk2 led2 hd hled2 hI2 F4 N4
        clear lF' lN'
        obtain ⟨ta, tb, rfl⟩ := hI2
        (try dsimp only at hd)
        split at hd
        case isFalse => cases hd
        rename_i hok
        cases hd
        have i1 := okN_lo hok
        have i2 := okN_hi hok
        have q4 := q3.mono (fun p hp => hled2 p (List.mem_cons_of_mem _ (List.mem_append_right _ hp)))
        clear q1 q2 q3 hled2 hA
        simp only [kstB] at F4
        (try dsimp only)
        (try (with_reducible show wpAny _ _ _ _ _ _))
        (try k_fold)
        k_steps
        exact list_end [(Str.ofString "top", .int _ _), (Str.ofString "bottom", .int _ _)] rfl (by k_asm) (by k_asm) (by (with_reducible kcf_all)) ⟨_, _, rfl⟩ (List.forall_mem_cons.mpr ⟨rfl, List.forall_mem_singleton.mpr rfl⟩) (fun z h1 h2 h3 => by
          have ha := h2 _ List.mem_cons_self
          have hb := h2 _ (List.mem_cons_of_mem _ List.mem_cons_self)
          dsimp only at ha hb
          simp only [if_neg h1, if_neg ha, if_neg hb, List.contains_nil, Bool.false_eq_true, if_false])
      case doneH =>
        intro ps u2 h2 tk2 hI2 F4 N4
        clear lF' lN'
        obtain ⟨ta, tb, rfl⟩ := hI2
        simp only [kstB] at F4
        have G4 := Grown.ofNews N4
        (try dsimp only)
        (try (with_reducible show wpAny _ _ _ _ _ _))
        (try k_fold)
        k_steps
        exact grow_endG (by k_asm) hA hT hO hD hDn (RQ.mono (by k_asm) (by (with_reducible kcf_all))) rfl (by k_asm) (by k_asm) (by first | ktm_same2 | (intro z9 h91 h92; (simp only [List.contains_cons, List.contains_nil, Bool.or_false, Bool.or_eq_false_iff, beq_eq_false_iff_ne, ne_eq] at h91 h92 ⊢); simp [h91, h92]))
    case doneG =>
      intro vs n nt u h tk hA hT F3 N3
      clear lF' lN' lR
      have hvl := hA.1
      (try dsimp only)
      (try (with_reducible show wpAny _ _ _ _ _ _))
      (try k_fold)
      repeat' (first | (k_unfold; (try dsimp only)) | ((fail_if_success (with_reducible show wpAny _ _ (PySem.call (Value.ref 170) _) _ _ _)); first | walk1 | (dsimp only; walk1)))
      k_dflt (refine' con_useS (con_spow _ _ _ _ _ hp ?h0 ?h3) ?k1 ?k2 ?k3 ?k4 ?k5 ?kK ?kp ?kd ?ku ?_; (case k1 => k_asm); (case k2 => k_asm); (case k3 => k_asm); (case k4 => k_asm); (case k5 => k_asm); (case kK => first | exact rfl | assumption); (case kp => refine ⟨AllR.sq (by k_asm) (by k_asm) R2 (by (with_reducible kcf_m)) (oneX_all (RQ.mono (by k_asm) (by (with_reducible kcf_all))) (RQ.mono (by k_asm) (by (with_reducible kcf_all))) (RQ.mono (by k_asm) (by (with_reducible kcf_all))) hs2), RQ.at (by k_asm) (by k_asm) R2 (RQ.mono rrK (by (with_reducible kcf_all)))⟩); (case kd => (first | exact room_lt hdp (by rfl) | exact room_lt0 hdp | exact lt_ble (by rfl) | ktr_room)); (case ku => (first | exact unit_lt hun (by rfl) | exact lt_ble (by rfl) | ktr_units)); (case h0 => (simp [oneXF]; done)); (case h3 => (simp [oneXF]; first | exact hs7 | omega)))
      intro Dp np vsp nxp hp' tkp Fp Np Ap Tp Op dp
      k_sweep
      (try dsimp only)
      (try (with_reducible show wpAny _ _ _ _ _ _))
      (try k_fold)
      k_steps)
end

end

end Mine

theorem PySem.Challenge.cw_sa0091_01_holds : PySem.Challenge.rw_sa0091_01.Holds := by
  exact Mine.law_holds
