import PyProof.Rows.All
import Wide.All
import OpenK.AllK
import Wide.FinOn
import Lean
import PySem.Challenge.RW_on0332_01
open PySem PySem.W PyProof.Rows
set_option Elab.async false
set_option maxRecDepth 100000
set_option maxHeartbeats 8000000

namespace Mine
open_top hd for PySem.Challenge.rw_on0332_01
end Mine

namespace Mine
abbrev Led := List (Addr × Obj)
theorem mulOk {a b : Int} (h0 : 0 ≤ a) (h1 : a < 4611686018427387904) : PySem.IntMulOk a b := by
  refine PySem.IntMulOk.of_left (PySem.intBits_le_64 (by omega) (by omega))
theorem fm_lo (a : Int) {b : Int} (hb : 0 < b) : 0 ≤ a.fmod b := Int.fmod_nonneg_of_pos a hb
theorem fm_hi (a : Int) {b : Int} (hb : 0 < b) : a.fmod b < b := Int.fmod_lt_of_pos a hb
theorem fd_lo {a b : Int} (ha : 0 ≤ a) (hb : 0 < b) : 0 ≤ a.fdiv b := Int.fdiv_nonneg ha (Int.le_of_lt hb)
local macro_rules | `(tactic| k_all) => `(tactic| assumption)
local macro_rules | `(tactic| walk_at "binaryOp Mult int int") => `(tactic| (k_here; (with_reducible refine mul_int ?_ (mulOk ?a0 ?a1)); (case a0 => exact fm_lo _ (by decide)); (case a1 => exact Int.lt_trans (fm_hi _ (by decide)) (by decide))))
theorem take_ok {w : World} {mean : ExcName → Option Value} {mg mb : Str → Option Value} {dp un : Nat} {gd : Option (List Code)} {cn : Str} {cs : Scope} {a : Addr} {ccd : Value} {cl : List (Str × Addr)} {outer : List Env} {A₀ : Around} {base h₀ : Heap} {L : Addr} {m : Str → Option Value} {s : Shared} {Q E : Value → Shared → Prop}
    {aS : Addr} {vs : List Value} {x y : Int} {n : Nat} {top : Int} {tt : Tok} {rest : Led}
    (B : Below A₀ base outer h₀) (F : Fr h₀ L s.heap m) (X : (hd.heap_39 w.params).In h₀) (N : News h₀ L s.heap ((aS, listOf vs.toArray n) :: rest)) (T : Top hd.view_39 (looseW hd.view_39 []) mean mg mb h₀) (hk : cs.kind = .function)
    (off : ∀ p ∈ rest, p.1 ≠ aS) (hi : IntsAre vs [x, y]) (hx : 0 ≤ x) (hy : 0 ≤ y ∧ y < 2147483647) (ht : 0 < top ∧ top < 1000)
    (hdp : dp + 1 < recursionLimit) (hun : un + 8 < cLine)
    (ret : ∀ g tg vs' x' y' h' tk', 0 ≤ g → g < top → IntsAre vs' [x', y'] → 0 ≤ x' → (0 ≤ y' ∧ y' < 2147483647) → Fr h₀ L h' m → News h₀ L h' ((aS, listOf vs'.toArray n) :: rest) → Q (.int g tg) {s with heap := h', toks := tk'}) :
    wpAny (model Challenge.rw_on0332_01.row.prog w) (ktrTop dp un gd cn cs L a ccd cl outer) (call (.ref 77) [.ref aS, .int top tt]) Q E s := by
  revert X; k_fill; intro X; w_top off
  refine wpAny_call ?_
  k_dflt cell_enter
  k_steps
  · refine' ret _ _ _ _ _ _ _ ?r1 ?r2 ?r3 ?r4 ?r5 ?r6 ?r7
    case r1 => exact fm_lo _ ht.1
    case r2 => exact fm_hi _ ht.1
    case r6 => assumption
    case r7 => assumption
    case r3 => assumption
    case r4 => exact fd_lo hx ht.1
    case r5 => exact hy
  · refine' ret _ _ _ _ _ _ _ ?r1 ?r2 ?r3 ?r4 ?r5 ?r6 ?r7
    case r1 => exact fm_lo _ ht.1
    case r2 => exact fm_hi _ ht.1
    case r6 => assumption
    case r7 => assumption
    case r3 => assumption
    case r4 => exact hx
    case r5 => exact ⟨fm_lo _ (by decide), fm_hi _ (by decide)⟩
end Mine

namespace Mine

def Stop (P : Prop) : Prop := P
theorem stop_of {P : Prop} (h : Stop P) : P := h

section
variable {prog : Program} {w : World} {A : Around} {E : Value → Shared → Prop} {s : Shared} {env : Env} {h₀ : Heap} {target : Expr} {body : List Stmt} {Q : Flow → Shared → Prop}

/-- a loop over a list of the ledger, by an invariant over the frame's map and the ledger; any target -/
theorem list_loop {l : Addr} {vs : List Value} {nn : Nat} {m₀ : Str → Option Value} {news : Led} (J : Nat → (Str → Option Value) → Led → Prop)
    (hh : A.handled = none) (hl : (l, listOf vs.toArray nn) ∈ news) (F : Fr h₀ env.locals s.heap m₀) (N : News h₀ env.locals s.heap news) (hj : J 0 m₀ news)
    (turn : ∀ i v m₁ nx h tk own, vs[i]? = some v → OwnOff own (nx.map (·.1)) → (l, listOf vs.toArray nn) ∈ nx → J i m₁ nx → Fr h₀ env.locals h m₁ → News h₀ env.locals h (nx ++ own) →
      wpAny (model prog w) A (assign target env v) (fun _ s₂ => wpAny (model prog w) A (execs body env) (InvPostG h₀ env.locals (fun m' nx => (l, listOf vs.toArray nn) ∈ nx ∧ J (i + 1) m' nx) own { s with heap := h, toks := tk } Q) E s₂) E { s with heap := h, toks := tk })
    (done : ∀ m₁ nx h tk, J vs.length m₁ nx → Fr h₀ env.locals h m₁ → News h₀ env.locals h nx → Q .next { s with heap := h, toks := tk }) :
    wpAny (model prog w) A (pyIter (.ref l)) (fun it s₂ => TurnsAt prog w A h₀ env target body Q E it s₂) E s := by
  have hol : s.heap.get? l = some (listOf vs.toArray nn) := (N _ hl).1
  have hls : s.heap.IsList l vs.toArray := ⟨_, hol, rfl, nn, rfl⟩
  have hne : l ≠ s.heap.objs.size := Nat.ne_of_lt (Heap.lt_size hol)
  refine wpAny_pyIter_list hls ?_
  have hlen : vs.toArray.size = vs.length := by simp
  have W := KTurns.ofWalks (target := target) (Walks.list (prog := prog) (w := w) hh s.heap.objs.size l hne vs.toArray) fun i v s Q E st q => letGo_listiter st.1 q
  rw [hlen] at W
  refine ⟨_, _, _, vs.length, _, _, _, m₀, news, (fun i m nx => (l, listOf vs.toArray nn) ∈ nx ∧ J i m nx), rfl, W, ?_, ?_, ?_, ⟨⟨_, Heap.get?_push_size _ rfl, rfl, rfl⟩, hls.at fun o e => Heap.get?_push_of_some _ e⟩, F.push _, (fun p hp => ⟨Heap.get?_push_of_some _ (N p hp).1, (N p hp).2⟩), ⟨hl, hj⟩, ?_, ?_⟩
  · intro hm
    rcases List.mem_cons.mp hm with e | hm
    · exact absurd F.ns.lt (e ▸ Nat.lt_irrefl _)
    · exact (N _ hl).2.1 ((List.mem_singleton.mp hm).symm)
  · intro b hb
    rw [List.mem_singleton.mp hb]
    exact next_is_new F
  · intro p hp hI
    exact absurd (Heap.lt_size (N p hp).1) ((List.mem_singleton.mp hI) ▸ Nat.lt_irrefl _)
  · rintro i v m₁ news₁ hh' tk' own hin hP ⟨hl₁, hJ⟩ hoff hown hget hfp hst F₁ N₁
    have hP' : vs[i]? = some v := by simpa using hP
    have hI0 : h₀.get? s.heap.objs.size = none := next_is_new F
    obtain ⟨⟨oI, hoI, _⟩, _⟩ := id hst
    have hIown : (s.heap.objs.size, oI) ∈ own.filter fun p => decide (p.1 = s.heap.objs.size) := List.mem_filter.mpr ⟨hfp _ (List.mem_cons.mpr (.inl rfl)) hI0 _ hoI, by simp⟩
    have hsep : OwnOff (own.filter fun p => decide (p.1 = s.heap.objs.size)) (news₁.map (·.1)) := by
      intro p hp b hb e
      obtain ⟨q, hq, rfl⟩ := List.mem_map.mp hb
      have h1 : p.1 = s.heap.objs.size := by simpa using (List.mem_filter.mp hp).2
      exact hoff q hq (List.mem_singleton.mpr (e ▸ h1))
    have N₂ : News h₀ env.locals hh' (news₁ ++ own.filter fun p => decide (p.1 = s.heap.objs.size)) := fun p hp => N₁ p ((List.mem_append.mp hp).elim (fun h => List.mem_append.mpr (.inr h)) fun h => List.mem_append.mpr (.inl ((List.mem_filter.mp h).1)))
    have hlo : hh'.get? l = some (listOf vs.toArray nn) := (N₁ _ (List.mem_append.mpr (.inr hl₁))).1
    have fin : ∀ s₂, InvEndG h₀ env.locals (fun m' nx => (l, listOf vs.toArray nn) ∈ nx ∧ J (i + 1) m' nx) (own.filter fun p => decide (p.1 = s.heap.objs.size)) { s with heap := hh', toks := tk' } s₂ →
        LoopStepU h₀ env.locals [s.heap.objs.size] own (fun m nx => (l, listOf vs.toArray nn) ∈ nx ∧ J (i + 1) m nx) { s with heap := hh', toks := tk' } .next s₂ := by
      rintro s₂ ⟨h', tk, m', news', nx, e, F', N', hn, ho, ha, hm⟩
      refine ⟨rfl, h', tk, m', nx, e, F', fun p hp => ?_, fun p hp hq => ?_, hm⟩
      · rcases List.mem_append.mp hp with h | h
        · by_cases hI : p.1 = s.heap.objs.size
          · exact N' p (ho p (List.mem_filter.mpr ⟨h, by simpa using hI⟩))
          · have h1 : p.1 = l := by
              rcases List.mem_cons.mp (hown p h) with h2 | h2
              · exact absurd h2 hI
              · exact List.mem_singleton.mp h2
            have h2 : hh'.get? p.1 = some p.2 := hget p h
            rw [h1, hlo] at h2
            have h3 : p = (l, listOf vs.toArray nn) := Prod.ext h1 (Option.some.inj h2).symm
            rw [h3]
            exact N' _ (hn _ hm.1)
        · exact N' p (hn p h)
      · exact ha _ hIown p.1 (List.mem_map.mpr ⟨p, hp, rfl⟩) (List.mem_singleton.mp hq).symm
    refine wpAny_mono (turn i v m₁ news₁ hh' tk' _ hP' hsep hl₁ hJ F₁ N₂) (fun _ s₁ p => wpAny_mono p (fun f s₂ p => ?_) fun _ _ e => e) fun _ _ e => e
    cases f with
    | ret v => exact p
    | brk => exact p
    | next => exact fin _ p
    | cont => exact fin _ p
  · rintro h' tk m' news' F' N' _ ⟨_, hJ⟩
    exact done m' news' h' tk hJ F' N'
end
end Mine

namespace Mine
abbrev holesD (w : World) (t1 t2 : Tok) (vm vr : Value) : Obj :=
  dictOf [{ hash := PyData.keyHash w.params (Str.ofString "most"), key := Value.str (Str.ofString "most") t1, val := vm }, { hash := PyData.keyHash w.params (Str.ofString "rows"), key := Value.str (Str.ofString "rows") t2, val := vr }] 2
def pd (p : Int × Int) : Dat := .tuple [.int p.1, .int p.2]
def mx (lo b : Int) : Int := if b > lo then b else lo
def mn (hi e : Int) : Int := if e < hi then e else hi
def cutR1 (b e : Int) (p : Int × Int) : List (Int × Int) :=
  if mn p.2 e ≤ mx p.1 b then [p] else (if p.1 < mx p.1 b then [(p.1, mx p.1 b)] else []) ++ (if mn p.2 e < p.2 then [(mn p.2 e, p.2)] else [])
def cutF1 (b e : Int) (p : Int × Int) : List (Int × Int) := if mn p.2 e ≤ mx p.1 b then [] else [(mx p.1 b, mn p.2 e)]
def cutR (b e : Int) (ps : List (Int × Int)) : List (Int × Int) := ps.flatMap (cutR1 b e)
def cutF (b e : Int) (ps : List (Int × Int)) : List (Int × Int) := ps.flatMap (cutF1 b e)

local macro_rules | `(tactic| k_all) => `(tactic| first | assumption | exact OwnOff.ne (by assumption) (by k_memK))
local macro_rules | `(tactic| size_fits) => `(tactic| (simp only [List.size_toArray, List.length_append, List.length_cons, List.length_nil, PySem.sizeLine_eq]; omega))
local macro_rules | `(tactic| k_mem) => `(tactic| first | exact List.Mem.head _ | assumption | (refine' List.Mem.tail _ ?_; k_mem))
local macro_rules | `(tactic| walk_at "exec For Tuple Attribute cons nil") => `(tactic| (k_here; (rename Fr _ _ _ _ => lF'); (with_unfolding_all refine' For_turns lF' ?_); k_whole))
local macro_rules | `(tactic| walk_at "pyIter ref") => `(tactic| ((with_reducible show wpAny _ _ (pyIter (Value.ref _)) (fun it s₂ => TurnsAt _ _ _ _ _ _ _ _ _ it s₂) _ _); refine stop_of ?_))
theorem cutF_len (b e : Int) (ps : List (Int × Int)) : (cutF b e ps).length ≤ ps.length := by
  induction ps with
  | nil => exact Nat.le_refl _
  | cons p r ih =>
    show (cutF1 b e p ++ cutF b e r).length ≤ _
    rw [List.length_append, List.length_cons]
    have : (cutF1 b e p).length ≤ 1 := by unfold cutF1; split <;> simp
    omega
theorem cutR_len (b e : Int) (ps : List (Int × Int)) : (cutR b e ps).length ≤ 2 * ps.length := by
  induction ps with
  | nil => exact Nat.le_refl _
  | cons p r ih =>
    show (cutR1 b e p ++ cutR b e r).length ≤ _
    rw [List.length_append, List.length_cons]
    have : (cutR1 b e p).length ≤ 2 := by unfold cutR1; (repeat' split) <;> simp
    omega
theorem kst_known {h₀ h : Heap} {L : Addr} {m : Str → Option Value} : ∀ {ps : List (Str × Value)}, (∀ p ∈ ps, m p.1 = some p.2) → Fr h₀ L h m → Fr h₀ L h (kstB m ps) := by
  intro ps hp F
  have e : kstB m ps = m := funext fun z => kstB_eq hp fun _ => rfl
  rw [e]; exact F
theorem pd_at {led : Led} {vs : List Value} {ps : List (Int × Int)} {i : Nat} {v : Value} (hD : DatAll led vs (ps.map pd)) (hv : vs[i]? = some v) :
    ∃ a lo hi u1 u2 n, v = .ref a ∧ (a, ({ cls := .type "tuple", data := .seq #[.int lo u1, .int hi u2] n } : Obj)) ∈ led ∧ ps[i]? = some (lo, hi) := by
  have hi : i < ps.length := by
    have h1 := hD.length
    rw [List.length_map] at h1
    rw [← h1]; exact (List.getElem?_eq_some_iff.mp hv).1
  obtain ⟨v', e, hd'⟩ := hD.get (k := i) (by rw [List.length_map]; exact hi)
  rw [hv] at e
  cases e
  rw [List.getElem_map] at hd'
  generalize hq : ps[i] = q at hd'
  obtain ⟨lo, hh⟩ := q
  unfold pd at hd'
  cases hd' with
  | tuple hm r =>
    cases r with
    | cons r1 r =>
      cases r with
      | cons r2 r =>
        cases r
        cases r1
        cases r2
        exact ⟨_, lo, hh, _, _, _, rfl, hm, by rw [List.getElem?_eq_getElem hi, hq]⟩
theorem allLt_at {d : Addr} : ∀ {l : Led}, AllLt d l → ∀ p ∈ l, p.1 < d
  | [], _, _, hp => nomatch hp
  | q :: r, h, p, hp => by
    rcases List.mem_cons.mp hp with rfl | hp
    · exact h.1
    · exact allLt_at h.2 p hp
theorem allLt_own {d : Addr} {x y z : Led} (h : AllLt d (x ++ (y ++ z))) : ∀ p ∈ z, p.1 < d := fun p hp => allLt_at h p (List.mem_append.mpr (.inr (List.mem_append.mpr (.inr hp))))
theorem take_succ_of {α : Type} {l : List α} {i : Nat} {x : α} (h : l[i]? = some x) : l.take (i + 1) = l.take i ++ [x] := by
  rw [List.take_add_one, h]; rfl
theorem datAll_l {a b : Led} {vs : List Value} {ds : List Dat} (h : DatAll a vs ds) : DatAll (a ++ b) vs ds := h.mono fun _ hp => List.mem_append.mpr (.inl hp)
theorem datAll_r {a b : Led} {vs : List Value} {ds : List Dat} (h : DatAll b vs ds) : DatAll (a ++ b) vs ds := h.mono fun _ hp => List.mem_append.mpr (.inr hp)
theorem fill_end {w : World} {g h' : Heap} {L' fA rA dx r : Addr} {m' : Str → Option Value} {t1 t2 : Tok} {vm : Value} {fv rv' : List Value} {nf nr : Nat} {nf' nr' : Nat} {add rest own : Led} {rv : List Value} {k : Nat} {fvn rvn : List Value}
    {ps : List (Int × Int)} {b e : Int} {i : Nat} {lo hi : Int} {s₁ : Shared} {tk : Nat} {pm : List (Str × Value)}
    (nt : Led) (vsF vsR : List Value) (lF lR : List (Int × Int))
    (N : News g L' h' (nt ++ (fA, listOf fvn.toArray nf') :: (rA, listOf rvn.toArray nr') :: (dx, holesD w t1 t2 vm (.ref r)) :: (add ++ (rest ++ own)))) (F : Fr g L' h' m')
    (n1 : ∀ p ∈ nt, rA < p.1) (n2 : ∀ p ∈ nt, ∀ q ∈ own, q.1 < p.1) (e1 : fvn = fv ++ vsF) (e2 : rvn = rv' ++ vsR) (hadd : ∀ p ∈ add, rA < p.1)
    (hoff : OwnOff own (((fA, listOf fv.toArray nf) :: (rA, listOf rv'.toArray nr) :: (dx, holesD w t1 t2 vm (.ref r)) :: (add ++ rest)).map (·.1)))
    (dF : DatAll add fv ((cutF b e (ps.take i)).map pd)) (dR : DatAll add rv' ((cutR b e (ps.take i)).map pd))
    (d1 : DatAll nt vsF (lF.map pd)) (d2 : DatAll nt vsR (lR.map pd)) (c1 : cutF1 b e (lo, hi) = lF) (c2 : cutR1 b e (lo, hi) = lR) (hps : ps[i]? = some (lo, hi))
    (hr : (r, listOf rv.toArray k) ∈ (fA, listOf fvn.toArray nf') :: (rA, listOf rvn.toArray nr') :: (dx, holesD w t1 t2 vm (.ref r)) :: ((nt ++ add) ++ rest)) (hm : ∀ p ∈ pm, m' p.1 = some p.2) :
    InvEndG g L' (fun m' nx => (r, listOf rv.toArray k) ∈ nx ∧ ∃ fv rv' nf nr add, nx = (fA, listOf fv.toArray nf) :: (rA, listOf rv'.toArray nr) :: (dx, holesD w t1 t2 vm (.ref r)) :: (add ++ rest) ∧ (∀ p ∈ add, rA < p.1) ∧ DatAll add fv ((cutF b e (ps.take (i + 1))).map pd) ∧ DatAll add rv' ((cutR b e (ps.take (i + 1))).map pd) ∧
      (∀ p ∈ pm, m' p.1 = some p.2)) own s₁ { s₁ with heap := h', toks := tk } := by
  subst c1 c2 e1 e2
  refine InvEndG.intro F N ⟨hr, _, _, _, _, _, rfl, ?_, ?_, ?_, hm⟩ ?_ ?_ ?_
  · intro p hp
    rcases List.mem_append.mp hp with h | h
    · exact n1 p h
    · exact hadd p h
  · rw [take_succ_of hps, cutF, List.flatMap_append, List.map_append]
    exact (datAll_r dF).append (datAll_l (by simpa [List.flatMap] using d1))
  · rw [take_succ_of hps, cutR, List.flatMap_append, List.map_append]
    exact (datAll_r dR).append (datAll_l (by simpa [List.flatMap] using d2))
  · intro p hp b hb
    simp only [List.map_cons, List.map_append, List.mem_cons, List.mem_append] at hb
    have o := hoff p hp
    simp only [List.map_cons, List.map_append, List.mem_cons, List.mem_append] at o
    rcases hb with hb | hb | hb | (hb | hb) | hb
    · exact o b (.inl hb)
    · exact o b (.inr (.inl hb))
    · exact o b (.inr (.inr (.inl hb)))
    · obtain ⟨q, hq, rfl⟩ := List.mem_map.mp hb
      exact Nat.ne_of_lt (n2 q hq p hp)
    · exact o b (.inr (.inr (.inr (.inl hb))))
    · exact o b (.inr (.inr (.inr (.inr hb))))
  · intro p hp
    simp only [List.mem_cons, List.mem_append] at hp ⊢
    rcases hp with hp | hp | hp | (hp | hp) | hp
    · exact .inr (.inl hp)
    · exact .inr (.inr (.inl hp))
    · exact .inr (.inr (.inr (.inl hp)))
    · exact .inl hp
    · exact .inr (.inr (.inr (.inr (.inl hp))))
    · exact .inr (.inr (.inr (.inr (.inr (.inl hp)))))
  · intro p hp
    simp only [List.mem_cons, List.mem_append]
    exact .inr (.inr (.inr (.inr (.inr (.inr hp)))))
theorem fill_ok {w : World} {mean : ExcName → Option Value} {mg mb : Str → Option Value} {dp un : Nat} {gd : Option (List Code)} {cn : Str} {cs : Scope} {a : Addr} {ccd : Value} {cl : List (Str × Addr)} {outer : List Env} {A₀ : Around} {base h₀ : Heap} {L : Addr} {m : Str → Option Value} {s : Shared} {Q E : Value → Shared → Prop}
    {x dx r : Addr} {t1 t2 : Tok} {vm : Value} {rv : List Value} {k : Nat} {ps : List (Int × Int)} {b e : Int} {tb te : Tok} {rest : Led}
    (B : Below A₀ base outer h₀) (F : Fr h₀ L s.heap m) (X : (hd.heap_39 w.params).In h₀) (N : News h₀ L s.heap ((dx, holesD w t1 t2 vm (.ref r)) :: rest)) (T : Top hd.view_39 (looseW hd.view_39 []) mean mg mb h₀) (hk : cs.kind = .function)
    (off : OwnOff rest [dx]) (hx : (x, instObj 59 dx) ∈ rest) (hr : (r, listOf rv.toArray k) ∈ rest) (hD : DatAll rest rv (ps.map pd)) (hps0 : ps.length < 1000)
    (hdp : dp + 1 < recursionLimit) (_hun : un + 8 < cLine)
    (ret : ∀ f fv nf r' rv' nr add h' tk', (∀ q ∈ (dx, holesD w t1 t2 vm (.ref r)) :: rest, ∀ p ∈ add, q.1 < p.1) → (f, listOf fv.toArray nf) ∈ add → (r', listOf rv'.toArray nr) ∈ add → DatAll add fv ((cutF b e ps).map pd) → DatAll add rv' ((cutR b e ps).map pd) →
      Fr h₀ L h' m → News h₀ L h' ((dx, holesD w t1 t2 vm (.ref r')) :: (add ++ rest)) → Q (.ref f) {s with heap := h', toks := tk'}) :
    wpAny (model Challenge.rw_on0332_01.row.prog w) (ktrTop dp un gd cn cs L a ccd cl outer) (call (.ref 35) [.ref x, .int b tb, .int e te]) Q E s := by
  revert X; k_fill; intro X; w_top off
  refine wpAny_call ?_
  k_dflt cell_enter
  k_steps
  unfold Stop
  first
  | (rename_i fA h3 lA h2 tk2 rA h1 lB h0 FF NN; have hfr := ltN lB.1; have hdf := ltN lA.1)
  | (rename_i fA h3 lA h2 rA h1 lB h0 FF NN; have hfr := ltN lB.1; have hdf := ltN lA.1)
  have hrr : (r, listOf rv.toArray k) ∈ (fA, listOf ([] : List Value).toArray 0) :: (rA, listOf ([] : List Value).toArray 0) :: (dx, holesD w t1 t2 vm (.ref r)) :: ([] ++ rest) := .tail _ (.tail _ (.tail _ hr))
  have NN2 : News _ _ _ ((fA, listOf ([] : List Value).toArray 0) :: (rA, listOf ([] : List Value).toArray 0) :: (dx, holesD w t1 t2 vm (.ref r)) :: ([] ++ rest)) := fun p hp => NN p (by
    simp only [List.nil_append, List.mem_cons] at hp ⊢
    rcases hp with hp | hp | hp | hp
    · exact .inr (.inl hp)
    · exact .inl hp
    · exact .inr (.inr (.inl hp))
    · exact .inr (.inr (.inr hp)))
  refine list_loop (fun i m nx => ∃ fv rv' nf nr add, nx = (fA, listOf fv.toArray nf) :: (rA, listOf rv'.toArray nr) :: (dx, holesD w t1 t2 vm (.ref r)) :: (add ++ rest) ∧ (∀ p ∈ add, rA < p.1) ∧ DatAll add fv ((cutF b e (ps.take i)).map pd) ∧ DatAll add rv' ((cutR b e (ps.take i)).map pd) ∧
    (∀ p ∈ [(Str.ofString "self", Value.ref x), (Str.ofString "begin", Value.int b tb), (Str.ofString "end", Value.int e te), (Str.ofString "found", Value.ref fA), (Str.ofString "rows", Value.ref rA)], m p.1 = some p.2))
    rfl hrr FF NN2 ?start ?turn ?done
  case start =>
    refine ⟨[], [], 0, 0, [], rfl, List.forall_mem_nil _, .nil, .nil, ?_⟩
    repeat' (first | exact List.forall_mem_nil _ | refine List.forall_mem_cons.mpr ⟨rfl, ?_⟩)
  case done =>
    clear FF NN NN2
    rintro m₁ nx h tk ⟨fv, rv', nf, nr, add, rfl, hadd, dF, dR, hm⟩ F1 N1
    have hlen : rv.length = ps.length := by rw [hD.length, List.length_map]
    rw [hlen, List.take_length] at dF dR
    have F2 := kst_known hm F1
    dsimp only [kstB] at F2
    clear F1 hm
    have hx' : (x, instObj 59 dx) ∈ (add ++ rest) := List.mem_append.mpr (.inr hx)
    have hOff : OwnOff (add ++ rest) [fA, rA, dx] := by
      intro p hp b hb
      simp only [List.mem_cons, List.not_mem_nil, or_false] at hb
      rcases List.mem_append.mp hp with hp | hp
      · have h3 := ltN (hadd p hp)
        rcases hb with rfl | rfl | rfl <;> (refine neN ?_; omega)
      · have h3 := ltN (allLt_at lA.2 p hp)
        have h4 := ltN (allLt_at lB.2.2 p hp)
        rcases hb with rfl | rfl | rfl
        · refine neN ?_; omega
        · refine neN ?_; omega
        · exact off p hp _ (.head _)
    k_steps
    refine' ret fA fv nf rA rv' nr ((fA, listOf fv.toArray nf) :: (rA, listOf rv'.toArray nr) :: add) _ _ ?r1 ?r2 ?r3 ?r4 ?r5 ?r6 ?r7
    case r6 => assumption
    case r7 =>
      (rename News h₀ _ _ _ => N9)
      refine fun p hp => N9 p ?_
      simp only [List.cons_append, List.mem_cons] at hp ⊢
      rcases hp with hp | hp | hp | hp
      · exact .inr (.inr (.inl hp))
      · exact .inl hp
      · exact .inr (.inl hp)
      · exact .inr (.inr (.inr hp))
    case r1 =>
      intro q hq p hp
      have hq1 : @LT.lt Nat _ q.1 fA := by
        rcases List.mem_cons.mp hq with rfl | hq
        · exact hdf
        · exact allLt_at lA.2 q hq
      simp only [List.mem_cons] at hp
      rcases hp with rfl | rfl | hp
      · exact hq1
      · exact Nat.lt_trans hq1 hfr
      · exact Nat.lt_trans (Nat.lt_trans hq1 hfr) (ltN (hadd p hp))
    case r2 => exact .head _
    case r3 => exact .tail _ (.head _)
    case r4 => exact dF.mono fun p hp => .tail _ (.tail _ hp)
    case r5 => exact dR.mono fun p hp => .tail _ (.tail _ hp)
  case turn =>
    clear FF NN
    rintro i v m₁ nx h tk own hv hoff hl ⟨fv, rv', nf, nr, add, rfl, hadd, dF, dR, hm⟩ F1 N1
    have F2 := kst_known hm F1
    dsimp only [kstB] at F2
    clear F1 hm
    simp only [List.cons_append, List.append_assoc] at N1
    obtain ⟨aT, lo, hi, u1, u2, nT, rfl, hT, hps⟩ := pd_at hD hv
    have hT' : (aT, { cls := .type "tuple", data := .seq #[.int lo u1, .int hi u2] nT }) ∈ (add ++ (rest ++ own)) := List.mem_append.mpr (.inr (List.mem_append.mpr (.inl hT)))
    have hx' : (x, instObj 59 dx) ∈ (add ++ (rest ++ own)) := List.mem_append.mpr (.inr (List.mem_append.mpr (.inl hx)))
    have hOff : OwnOff (add ++ (rest ++ own)) [fA, rA, dx] := by
      intro p hp b hb
      simp only [List.mem_cons, List.not_mem_nil, or_false] at hb
      rcases List.mem_append.mp hp with hp | hp
      · have h3 := ltN (hadd p hp)
        rcases hb with rfl | rfl | rfl <;> (refine neN ?_; omega)
      · rcases List.mem_append.mp hp with hp | hp
        · have h3 := ltN (allLt_at lA.2 p hp)
          have h4 := ltN (allLt_at lB.2.2 p hp)
          rcases hb with rfl | rfl | rfl
          · refine neN ?_; omega
          · refine neN ?_; omega
          · exact off p hp _ (.head _)
        · refine hoff p hp b ?_
          simp only [List.map_cons, List.mem_cons]
          rcases hb with rfl | rfl | rfl
          · exact .inl rfl
          · exact .inr (.inl rfl)
          · exact .inr (.inr (.inl rfl))
    have hfv : fv.length ≤ 1000 := by rw [dF.length, List.length_map]; (have q := cutF_len b e (ps.take i)); (have q2 := List.length_take_le' i ps); omega
    have hrv : rv'.length ≤ 2000 := by
      rw [dR.length, List.length_map]; have q := cutR_len b e (ps.take i); have q2 := List.length_take_le' i ps; omega
    have hadd2 := hadd
    have hoff2 := hoff
    k_steps
    · (rename News _ _ _ _ => NN); (rename Fr _ _ _ _ => FF); (try simp only [List.push_toArray] at NN)
      refine' fill_end [_] [] [_] [] [(lo, hi)] ?N FF ?n1 ?n2 ?e1 ?e2 hadd hoff dF dR ?d1 ?d2 ?c1 ?c2 hps (.tail _ (.tail _ (.tail _ (List.mem_append.mpr (.inr hr))))) ?m
      case N => exact NN
      case n1 => (intro p hp; simp only [List.mem_cons, List.not_mem_nil, or_false] at hp; (first | subst hp | (rcases hp with rfl | rfl) | (rcases hp with rfl | rfl | rfl)) <;> (dsimp only; refine ltN ?_; omega))
      case n2 => (intro p hp q hq; simp only [List.mem_cons, List.not_mem_nil, or_false] at hp; (first | subst hp | (rcases hp with rfl | rfl) | (rcases hp with rfl | rfl | rfl)) <;> (dsimp only; first | exact allLt_own (And.right (And.right (And.right (by assumption)))) q hq | exact allLt_own (And.right (And.right (And.right (And.right (by assumption))))) q hq | exact allLt_own (And.right (And.right (And.right (And.right (And.right (by assumption)))))) q hq))
      case e1 => first | rfl | exact (List.append_nil _).symm | exact List.append_assoc _ _ _
      case e2 => first | rfl | exact (List.append_nil _).symm | exact List.append_assoc _ _ _
      case d1 => (repeat' (first | exact DatAll.nil | refine DatAll.cons ?_ ?_ | exact DatIn.int _ _ | refine DatIn.tuple (by k_mem) ?_))
      case d2 => (repeat' (first | exact DatAll.nil | refine DatAll.cons ?_ ?_ | exact DatIn.int _ _ | refine DatIn.tuple (by k_mem) ?_))
      case c1 => simp [cutF1, mx, mn, *]
      case c2 => simp [cutR1, mx, mn, *]
      case m => (repeat' (first | exact List.forall_mem_nil _ | refine List.forall_mem_cons.mpr ⟨rfl, ?_⟩))
    · (rename News _ _ _ _ => NN); (rename Fr _ _ _ _ => FF); (try simp only [List.push_toArray] at NN)
      refine' fill_end [_, _, _] [_] [_, _] [(mx lo b, mn hi e)] [(lo, mx lo b), (mn hi e, hi)] ?N FF ?n1 ?n2 ?e1 ?e2 hadd hoff dF dR ?d1 ?d2 ?c1 ?c2 hps (.tail _ (.tail _ (.tail _ (List.mem_append.mpr (.inr hr))))) ?m
      case N => exact NN
      case n1 => (intro p hp; simp only [List.mem_cons, List.not_mem_nil, or_false] at hp; (first | subst hp | (rcases hp with rfl | rfl) | (rcases hp with rfl | rfl | rfl)) <;> (dsimp only; refine ltN ?_; omega))
      case n2 => (intro p hp q hq; simp only [List.mem_cons, List.not_mem_nil, or_false] at hp; (first | subst hp | (rcases hp with rfl | rfl) | (rcases hp with rfl | rfl | rfl)) <;> (dsimp only; first | exact allLt_own (And.right (And.right (And.right (by assumption)))) q hq | exact allLt_own (And.right (And.right (And.right (And.right (by assumption))))) q hq | exact allLt_own (And.right (And.right (And.right (And.right (And.right (by assumption)))))) q hq))
      case e1 => first | rfl | exact (List.append_nil _).symm | exact List.append_assoc _ _ _
      case e2 => first | rfl | exact (List.append_nil _).symm | exact List.append_assoc _ _ _
      case d1 => (repeat' (first | exact DatAll.nil | refine DatAll.cons ?_ ?_ | exact DatIn.int _ _ | refine DatIn.tuple (by k_mem) ?_))
      case d2 => (repeat' (first | exact DatAll.nil | refine DatAll.cons ?_ ?_ | exact DatIn.int _ _ | refine DatIn.tuple (by k_mem) ?_))
      case c1 => simp [cutF1, mx, mn, *]
      case c2 => simp [cutR1, mx, mn, *]
      case m => (repeat' (first | exact List.forall_mem_nil _ | refine List.forall_mem_cons.mpr ⟨rfl, ?_⟩))
    · (rename News _ _ _ _ => NN); (rename Fr _ _ _ _ => FF); (try simp only [List.push_toArray] at NN)
      refine' fill_end [_, _] [_] [_] [(mx lo b, mn hi e)] [(lo, mx lo b)] ?N FF ?n1 ?n2 ?e1 ?e2 hadd hoff dF dR ?d1 ?d2 ?c1 ?c2 hps (.tail _ (.tail _ (.tail _ (List.mem_append.mpr (.inr hr))))) ?m
      case N => exact NN
      case n1 => (intro p hp; simp only [List.mem_cons, List.not_mem_nil, or_false] at hp; (first | subst hp | (rcases hp with rfl | rfl) | (rcases hp with rfl | rfl | rfl)) <;> (dsimp only; refine ltN ?_; omega))
      case n2 => (intro p hp q hq; simp only [List.mem_cons, List.not_mem_nil, or_false] at hp; (first | subst hp | (rcases hp with rfl | rfl) | (rcases hp with rfl | rfl | rfl)) <;> (dsimp only; first | exact allLt_own (And.right (And.right (And.right (by assumption)))) q hq | exact allLt_own (And.right (And.right (And.right (And.right (by assumption))))) q hq | exact allLt_own (And.right (And.right (And.right (And.right (And.right (by assumption)))))) q hq))
      case e1 => first | rfl | exact (List.append_nil _).symm | exact List.append_assoc _ _ _
      case e2 => first | rfl | exact (List.append_nil _).symm | exact List.append_assoc _ _ _
      case d1 => (repeat' (first | exact DatAll.nil | refine DatAll.cons ?_ ?_ | exact DatIn.int _ _ | refine DatIn.tuple (by k_mem) ?_))
      case d2 => (repeat' (first | exact DatAll.nil | refine DatAll.cons ?_ ?_ | exact DatIn.int _ _ | refine DatIn.tuple (by k_mem) ?_))
      case c1 => simp [cutF1, mx, mn, *]
      case c2 => simp [cutR1, mx, mn, *]
      case m => (repeat' (first | exact List.forall_mem_nil _ | refine List.forall_mem_cons.mpr ⟨rfl, ?_⟩))
    · (rename News _ _ _ _ => NN); (rename Fr _ _ _ _ => FF); (try simp only [List.push_toArray] at NN)
      refine' fill_end [_, _] [_] [_] [(mx lo b, mn hi e)] [(mn hi e, hi)] ?N FF ?n1 ?n2 ?e1 ?e2 hadd hoff dF dR ?d1 ?d2 ?c1 ?c2 hps (.tail _ (.tail _ (.tail _ (List.mem_append.mpr (.inr hr))))) ?m
      case N => exact NN
      case n1 => (intro p hp; simp only [List.mem_cons, List.not_mem_nil, or_false] at hp; (first | subst hp | (rcases hp with rfl | rfl) | (rcases hp with rfl | rfl | rfl)) <;> (dsimp only; refine ltN ?_; omega))
      case n2 => (intro p hp q hq; simp only [List.mem_cons, List.not_mem_nil, or_false] at hp; (first | subst hp | (rcases hp with rfl | rfl) | (rcases hp with rfl | rfl | rfl)) <;> (dsimp only; first | exact allLt_own (And.right (And.right (And.right (by assumption)))) q hq | exact allLt_own (And.right (And.right (And.right (And.right (by assumption))))) q hq | exact allLt_own (And.right (And.right (And.right (And.right (And.right (by assumption)))))) q hq))
      case e1 => first | rfl | exact (List.append_nil _).symm | exact List.append_assoc _ _ _
      case e2 => first | rfl | exact (List.append_nil _).symm | exact List.append_assoc _ _ _
      case d1 => (repeat' (first | exact DatAll.nil | refine DatAll.cons ?_ ?_ | exact DatIn.int _ _ | refine DatIn.tuple (by k_mem) ?_))
      case d2 => (repeat' (first | exact DatAll.nil | refine DatAll.cons ?_ ?_ | exact DatIn.int _ _ | refine DatIn.tuple (by k_mem) ?_))
      case c1 => simp [cutF1, mx, mn, *]
      case c2 => simp [cutR1, mx, mn, *]
      case m => (repeat' (first | exact List.forall_mem_nil _ | refine List.forall_mem_cons.mpr ⟨rfl, ?_⟩))
    · (rename News _ _ _ _ => NN); (rename Fr _ _ _ _ => FF); (try simp only [List.push_toArray] at NN)
      refine' fill_end [_] [_] [] [(mx lo b, mn hi e)] [] ?N FF ?n1 ?n2 ?e1 ?e2 hadd hoff dF dR ?d1 ?d2 ?c1 ?c2 hps (.tail _ (.tail _ (.tail _ (List.mem_append.mpr (.inr hr))))) ?m
      case N => exact NN
      case n1 => (intro p hp; simp only [List.mem_cons, List.not_mem_nil, or_false] at hp; (first | subst hp | (rcases hp with rfl | rfl) | (rcases hp with rfl | rfl | rfl)) <;> (dsimp only; refine ltN ?_; omega))
      case n2 => (intro p hp q hq; simp only [List.mem_cons, List.not_mem_nil, or_false] at hp; (first | subst hp | (rcases hp with rfl | rfl) | (rcases hp with rfl | rfl | rfl)) <;> (dsimp only; first | exact allLt_own (And.right (And.right (And.right (by assumption)))) q hq | exact allLt_own (And.right (And.right (And.right (And.right (by assumption))))) q hq | exact allLt_own (And.right (And.right (And.right (And.right (And.right (by assumption)))))) q hq))
      case e1 => first | rfl | exact (List.append_nil _).symm | exact List.append_assoc _ _ _
      case e2 => first | rfl | exact (List.append_nil _).symm | exact List.append_assoc _ _ _
      case d1 => (repeat' (first | exact DatAll.nil | refine DatAll.cons ?_ ?_ | exact DatIn.int _ _ | refine DatIn.tuple (by k_mem) ?_))
      case d2 => (repeat' (first | exact DatAll.nil | refine DatAll.cons ?_ ?_ | exact DatIn.int _ _ | refine DatIn.tuple (by k_mem) ?_))
      case c1 => simp [cutF1, mx, mn, *]
      case c2 => simp [cutR1, mx, mn, *]
      case m => (repeat' (first | exact List.forall_mem_nil _ | refine List.forall_mem_cons.mpr ⟨rfl, ?_⟩))
end Mine

namespace Mine
def runStep (acc : List (Int × Int)) (x : Int) : List (Int × Int) :=
  match acc.getLast? with
  | none => [(x, x + 1)]
  | some p => if p.2 = x then acc.dropLast ++ [(p.1, x + 1)] else acc ++ [(x, x + 1)]
def runs (ns : List Int) : List (Int × Int) := ns.foldl runStep []

section
variable {prog : Program} {w : World} {A : Around} {E : Value → Shared → Prop} {s : Shared} {h₀ : Heap} {L l : Addr} {m : Str → Option Value} {news news' : Led} {us : List Value} {u v : Value} {n : Nat} {tk : Tok}
theorem last_sub {value slice : PySem.Expr} {Q : Value → Shared → Prop} (N : News h₀ L s.heap news) (hm : (l, listOf (us ++ [u]).toArray n) ∈ news) (hsz : us.length < 1000000) (h : Q u s)
    (hs : subscripted slice false (.ref l) (.int (-1) tk) = operate [.ref l, .int (-1) tk] (getItem (.ref l) (.int (-1) tk)) := by with_unfolding_all rfl) :
    wpAny (model prog w) A (subscriptTail value slice (.ref l) (.int (-1) tk)) Q E s := by
  have hl : s.heap.IsList l (us ++ [u]).toArray := ⟨_, (N _ hm).1, rfl, n, rfl⟩
  refine tail_any hl.typeIs slot_list_getitem.lookup (wpAny_getItem_list_neg hl (by decide) (by simp; omega) (by decide) ?_ h) hs
  have e : (-1 + ((us ++ [u]).toArray.size : Int)).toNat = us.length := by simp; omega
  rw [e]; simp
theorem setLast_K {Q : Unit → Shared → Prop} (F : Fr h₀ L s.heap m) (N : News h₀ L s.heap news) (U : Upd l (listOf (us ++ [u]).toArray n) (listOf (us ++ [v]).toArray n) news news') (hsz : us.length < 1000000)
    (h : ∀ h', Fr h₀ L h' m → News h₀ L h' news' → Q () { s with heap := h' }) : wpAny (model prog w) A (setItem (.ref l) (.int (-1) tk) v) Q E s := by
  obtain ⟨pre, post, rfl, rfl, a, b⟩ := U.split
  have z := N (l, listOf (us ++ [u]).toArray n) (List.mem_append.mpr (.inr (.head _)))
  refine ki_setBack z.1 (by decide) (by simp; omega) (by decide) (h _ (F.change (Heap.SameBut.update ..) z.2.1 z.2.2) (ki_turn _ N a b ?_ ?_))
  · have e : (-1 + ((us ++ [u]).toArray.size : Int)).toNat = us.length := by simp; omega
    rw [e]
    apply Array.toList_inj.mp
    simp
  · simp
end
local macro_rules | `(tactic| k_all) => `(tactic| first | assumption | exact OwnOff.ne (by assumption) (by k_memK))
local macro_rules | `(tactic| size_fits) => `(tactic| (simp only [List.size_toArray, List.length_append, List.length_cons, List.length_nil, PySem.sizeLine_eq]; omega))
local macro_rules | `(tactic| k_mem) => `(tactic| first | exact List.Mem.head _ | assumption | (refine' List.Mem.tail _ ?_; k_mem))
local macro_rules | `(tactic| walk_at "subscriptTail") => `(tactic| (k_here; (with_reducible show wpAny _ _ (subscriptTail _ _ (Value.ref _) (Value.int (-1) _)) _ _ _); (with_unfolding_all refine' last_sub ?k1 ?k2 ?k3 ?_ ?k4; (case k1 => k_asm); (case k2 => k_mem); (case k3 => assumption); (case k4 => with_unfolding_all rfl); k_whole)))
local macro_rules | `(tactic| walk_at "setItem ref int") => `(tactic| (k_here; k_dflt (refine' setLast_K ?k1 ?k2 ?k3 ?k4 ?_; (case k1 => k_asm); (case k2 => k_asm); (case k3 => k_upd); (case k4 => assumption); k_whole); intro h' F' N'; (try k_sweep)))
local macro_rules | `(tactic| walk_at "exec For Name Name cons nil") => `(tactic| (k_here; (rename Fr _ _ _ _ => lF'); (with_unfolding_all refine' For_turns lF' ?_); k_whole))
local macro_rules | `(tactic| walk_at "pyIter ref") => `(tactic| ((with_reducible show wpAny _ _ (pyIter (Value.ref _)) (fun it s₂ => TurnsAt _ _ _ _ _ _ _ _ _ it s₂) _ _); refine stop_of ?_))
theorem runStep_len (acc : List (Int × Int)) (x : Int) : (runStep acc x).length ≤ acc.length + 1 := by
  unfold runStep
  split
  · simp
  · split
    · simp
    · simp
theorem runs_len (ns : List Int) : (runs ns).length ≤ ns.length := by
  have all : ∀ (ns : List Int) (acc : List (Int × Int)), (ns.foldl runStep acc).length ≤ acc.length + ns.length := by
    intro ns
    induction ns with
    | nil => intro acc; simp
    | cons x r ih =>
      intro acc
      rw [List.foldl_cons, List.length_cons]
      have h1 := ih (runStep acc x)
      have h2 := runStep_len acc x
      omega
  have := all ns []
  simpa [runs] using this
theorem pd_in {led : Led} {v : Value} {p : Int × Int} (h : DatIn led v (pd p)) : ∃ a u1 u2 n, v = .ref a ∧ (a, ({ cls := .type "tuple", data := .seq #[.int p.1 u1, .int p.2 u2] n } : Obj)) ∈ led := by
  unfold pd at h
  cases h with
  | tuple hm r =>
    cases r with
    | cons r1 r =>
      cases r with
      | cons r2 r =>
        cases r
        cases r1
        cases r2
        exact ⟨_, _, _, _, rfl, hm⟩
theorem runs_end {g h' : Heap} {L' fA aL : Addr} {m' : Str → Option Value} {fv : List Value} {nf nf' k : Nat} {add rest own : Led} {lv : List Value} {fvn : List Value}
    {ns : List Int} {i : Nat} {z : Int} {s₁ : Shared} {tk : Nat} {pm : List (Str × Value)}
    (nt : Led) (psn : List (Int × Int))
    (N : News g L' h' (nt ++ (fA, listOf fvn.toArray nf') :: (add ++ (rest ++ own)))) (F : Fr g L' h' m')
    (n1 : ∀ p ∈ nt, fA < p.1) (n2 : ∀ p ∈ nt, ∀ q ∈ own, q.1 < p.1) (hadd : ∀ p ∈ add, fA < p.1)
    (hoff : OwnOff own (((fA, listOf fv.toArray nf) :: (add ++ rest)).map (·.1)))
    (d1 : DatAll (nt ++ add) fvn (psn.map pd)) (c1 : runStep (runs (ns.take i)) z = psn) (hz : ns[i]? = some z)
    (hr : (aL, listOf lv.toArray k) ∈ (fA, listOf fvn.toArray nf') :: ((nt ++ add) ++ rest)) (hm : ∀ p ∈ pm, m' p.1 = some p.2) :
    InvEndG g L' (fun m' nx => (aL, listOf lv.toArray k) ∈ nx ∧ ∃ fv nf add, nx = (fA, listOf fv.toArray nf) :: (add ++ rest) ∧ (∀ p ∈ add, fA < p.1) ∧ DatAll add fv ((runs (ns.take (i + 1))).map pd) ∧
      (∀ p ∈ pm, m' p.1 = some p.2)) own s₁ { s₁ with heap := h', toks := tk } := by
  subst c1
  refine InvEndG.intro F N ⟨hr, _, _, _, rfl, ?_, ?_, hm⟩ ?_ ?_ ?_
  · intro p hp
    rcases List.mem_append.mp hp with h | h
    · exact n1 p h
    · exact hadd p h
  · rw [take_succ_of hz, runs, List.foldl_append]
    exact d1
  · intro p hp b hb
    simp only [List.map_cons, List.map_append, List.mem_cons, List.mem_append] at hb
    have o := hoff p hp
    simp only [List.map_cons, List.map_append, List.mem_cons, List.mem_append] at o
    rcases hb with hb | (hb | hb) | hb
    · exact o b (.inl hb)
    · obtain ⟨q, hq, rfl⟩ := List.mem_map.mp hb
      exact Nat.ne_of_lt (n2 q hq p hp)
    · exact o b (.inr (.inl hb))
    · exact o b (.inr (.inr hb))
  · intro p hp
    simp only [List.mem_cons, List.mem_append] at hp ⊢
    rcases hp with hp | (hp | hp) | hp
    · exact .inr (.inl hp)
    · exact .inl hp
    · exact .inr (.inr (.inl hp))
    · exact .inr (.inr (.inr (.inl hp)))
  · intro p hp
    simp only [List.mem_cons, List.mem_append]
    exact .inr (.inr (.inr (.inr hp)))
theorem runs_ok {w : World} {mean : ExcName → Option Value} {mg mb : Str → Option Value} {dp un : Nat} {gd : Option (List Code)} {cn : Str} {cs : Scope} {a : Addr} {ccd : Value} {cl : List (Str × Addr)} {outer : List Env} {A₀ : Around} {base h₀ : Heap} {L : Addr} {m : Str → Option Value} {s : Shared} {Q E : Value → Shared → Prop}
    {aL : Addr} {lv : List Value} {ns : List Int} {k : Nat} {rest : Led}
    (B : Below A₀ base outer h₀) (F : Fr h₀ L s.heap m) (X : (hd.heap_39 w.params).In h₀) (N : News h₀ L s.heap rest) (T : Top hd.view_39 (looseW hd.view_39 []) mean mg mb h₀) (hk : cs.kind = .function)
    (hl : (aL, listOf lv.toArray k) ∈ rest) (hi : IntsAre lv ns) (hns : ns.length < 1000)
    (hdp : dp + 1 < recursionLimit) (hun : un + 108 < cLine)
    (ret : ∀ f fv nf add h' tk', (∀ q ∈ rest, ∀ p ∈ add, q.1 < p.1) → (f, listOf fv.toArray nf) ∈ add → DatAll add fv ((runs ns).map pd) →
      Fr h₀ L h' m → News h₀ L h' (add ++ rest) → Q (.ref f) {s with heap := h', toks := tk'}) :
    wpAny (model Challenge.rw_on0332_01.row.prog w) (ktrTop dp un gd cn cs L a ccd cl outer) (call (.ref 91) [.ref aL]) Q E s := by
  revert X; k_fill; intro X; w_top off
  refine wpAny_call ?_
  k_dflt cell_enter
  k_steps
  rename_i fA h1 lA h0 FF NN
  unfold Stop
  refine list_loop (fun i m nx => ∃ fv nf add, nx = (fA, listOf fv.toArray nf) :: (add ++ rest) ∧ (∀ p ∈ add, fA < p.1) ∧ DatAll add fv ((runs (ns.take i)).map pd) ∧
    (∀ p ∈ [(Str.ofString "places", Value.ref aL), (Str.ofString "found", Value.ref fA)], m p.1 = some p.2))
    rfl (.tail _ hl) FF NN ?start ?turn ?done
  case start =>
    refine ⟨[], 0, [], rfl, List.forall_mem_nil _, .nil, ?_⟩
    repeat' (first | exact List.forall_mem_nil _ | refine List.forall_mem_cons.mpr ⟨rfl, ?_⟩)
  case turn =>
    clear FF NN
    rintro i v m₁ nx h tk own hv hoff hl ⟨fv, nf, add, rfl, hadd, dF, hm⟩ F1 N1
    have F2 := kst_known hm F1
    dsimp only [kstB] at F2
    clear F1 hm
    simp only [List.cons_append, List.append_assoc] at N1
    have hi' : i < ns.length := by rw [← hi.length]; exact (List.getElem?_eq_some_iff.mp hv).1
    obtain ⟨t, hx⟩ := hi.get i (ns[i]'hi') (List.getElem?_eq_getElem hi')
    rw [hv] at hx
    cases hx
    have hni : ns[i]? = some (ns[i]'hi') := List.getElem?_eq_getElem hi'
    generalize ns[i]'hi' = z at *
    have hOff : OwnOff (add ++ (rest ++ own)) [fA] := by
      intro p hp b hb
      cases List.mem_singleton.mp hb
      rcases List.mem_append.mp hp with hp | hp
      · have h3 := ltN (hadd p hp)
        refine neN ?_; omega
      · rcases List.mem_append.mp hp with hp | hp
        · have h3 := ltN (lA p hp)
          refine neN ?_; omega
        · exact hoff p hp _ (.head _)
    by_cases hne : runs (ns.take i) = []
    · rw [hne] at dF
      cases dF
      k_steps
      · (rename News _ _ _ _ => NN); (rename Fr _ _ _ _ => FF); (try simp only [List.push_toArray] at NN)
        refine' runs_end [_, _] [(z, z + 1)] ?N FF ?n1 ?n2 hadd hoff ?d1 ?c1 hni (.tail _ (List.mem_append.mpr (.inr (by assumption)))) ?m
        case N => exact NN
        case n1 => (intro p hp; simp only [List.mem_cons, List.not_mem_nil, or_false] at hp; (rcases hp with rfl | rfl) <;> (dsimp only; refine ltN ?_; omega))
        case n2 => (intro p hp q hq; simp only [List.mem_cons, List.not_mem_nil, or_false] at hp; (rcases hp with rfl | rfl) <;> (dsimp only; first | exact allLt_own (And.right (And.right (by assumption))) q hq | exact allLt_own (And.right (by assumption)) q hq))
        case d1 => refine DatAll.one (DatIn.tuple (.head _) (.cons (.int _ _) (.cons (.int _ _) .nil)))
        case c1 => rw [hne]; rfl
        case m => (repeat' (first | exact List.forall_mem_nil _ | refine List.forall_mem_cons.mpr ⟨rfl, ?_⟩))
    · obtain ⟨init, ⟨lo, hi⟩, hrun⟩ : ∃ init p, runs (ns.take i) = init ++ [p] := ⟨_, _, (List.dropLast_concat_getLast hne).symm⟩
      rw [hrun] at dF
      obtain ⟨us, u, rfl⟩ : ∃ us u, fv = us ++ [u] := by
        have h1 := dF.length
        simp at h1
        have h2 : fv ≠ [] := by intro e; rw [e] at h1; simp at h1
        exact ⟨_, _, (List.dropLast_concat_getLast h2).symm⟩
      obtain ⟨es, d, hes, dU, dL⟩ := DatAll.snoc dF
      rw [List.map_append] at hes
      obtain ⟨rfl, rfl⟩ : es = init.map pd ∧ d = pd (lo, hi) := by
        have := List.append_inj' hes rfl
        simp at this
        exact ⟨this.1.symm, this.2.symm⟩
      obtain ⟨aT, u1, u2, nT, rfl, hT⟩ := pd_in dL
      have hT' : (aT, { cls := .type "tuple", data := .seq #[.int lo u1, .int hi u2] nT }) ∈ (add ++ (rest ++ own)) := List.mem_append.mpr (.inl hT)
      have hus : us.length < 1000000 := by
        have h1 := dU.length
        rw [List.length_map] at h1
        have h2 := runs_len (ns.take i)
        rw [hrun, List.length_append] at h2
        have h3 := List.length_take_le' i ns
        omega
      k_steps
      · exact absurd (of_decide_eq_true (by assumption)) (by simp)
      · (rename News _ _ _ _ => NN); (rename Fr _ _ _ _ => FF); (try simp only [List.push_toArray] at NN)
        refine' runs_end [_, _] (init ++ [(lo, z + 1)]) ?N FF ?n1 ?n2 hadd hoff ?d1 ?c1 hni (.tail _ (List.mem_append.mpr (.inr (by assumption)))) ?m
        case N => exact NN
        case n1 => (intro p hp; simp only [List.mem_cons, List.not_mem_nil, or_false] at hp; (rcases hp with rfl | rfl) <;> (dsimp only; refine ltN ?_; omega))
        case n2 => (intro p hp q hq; simp only [List.mem_cons, List.not_mem_nil, or_false] at hp; (rcases hp with rfl | rfl) <;> (dsimp only; first | exact allLt_own (And.right (And.right (by assumption))) q hq | exact allLt_own (And.right (by assumption)) q hq))
        case d1 => rw [List.map_append]; exact DatAll.append (datAll_r dU) (DatAll.one (DatIn.tuple (.head _) (.cons (.int _ _) (.cons (.int _ _) .nil))))
        case c1 => rw [hrun]; simp [runStep, *]
        case m => (repeat' (first | exact List.forall_mem_nil _ | refine List.forall_mem_cons.mpr ⟨rfl, ?_⟩))
      · (rename News _ _ _ _ => NN); (rename Fr _ _ _ _ => FF); (try simp only [List.push_toArray] at NN)
        refine' runs_end [_, _] ((init ++ [(lo, hi)]) ++ [(z, z + 1)]) ?N FF ?n1 ?n2 hadd hoff ?d1 ?c1 hni (.tail _ (List.mem_append.mpr (.inr (by assumption)))) ?m
        case N => exact NN
        case n1 => (intro p hp; simp only [List.mem_cons, List.not_mem_nil, or_false] at hp; (rcases hp with rfl | rfl) <;> (dsimp only; refine ltN ?_; omega))
        case n2 => (intro p hp q hq; simp only [List.mem_cons, List.not_mem_nil, or_false] at hp; (rcases hp with rfl | rfl) <;> (dsimp only; first | exact allLt_own (And.right (And.right (by assumption))) q hq | exact allLt_own (And.right (by assumption)) q hq))
        case d1 => rw [List.map_append]; exact DatAll.append (datAll_r dF) (DatAll.one (DatIn.tuple (.head _) (.cons (.int _ _) (.cons (.int _ _) .nil))))
        case c1 => rw [hrun]; simp [runStep, *]
        case m => (repeat' (first | exact List.forall_mem_nil _ | refine List.forall_mem_cons.mpr ⟨rfl, ?_⟩))
  case done =>
    clear FF NN
    rintro m₁ nx h tk ⟨fv, nf, add, rfl, hadd, dF, hm⟩ F1 N1
    have hlen : lv.length = ns.length := hi.length
    rw [hlen, List.take_length] at dF
    have F2 := kst_known hm F1
    dsimp only [kstB] at F2
    clear F1 hm
    k_steps
    refine' ret fA fv nf ((fA, listOf fv.toArray nf) :: add) _ _ ?r1 ?r2 ?r3 ?r4 ?r5
    case r4 => assumption
    case r5 => assumption
    case r1 =>
      intro q hq p hp
      simp only [List.mem_cons] at hp
      rcases hp with rfl | hp
      · exact lA q hq
      · exact Nat.lt_trans (lA q hq) (hadd p hp)
    case r2 => exact .head _
    case r3 => exact dF.mono fun p hp => .tail _ hp
end Mine

namespace Mine
theorem take_use {w : World} {mean : ExcName → Option Value} {mg mb : Str → Option Value} {dp un : Nat} {gd : Option (List Code)} {cn : Str} {cs : Scope} {a : Addr} {ccd : Value} {cl : List (Str × Addr)} {outer : List Env} {A₀ : Around} {base h₀ : Heap} {L : Addr} {m : Str → Option Value} {s : Shared} {Q E : Value → Shared → Prop}
    {aS : Addr} {vs : List Value} {x y : Int} {n : Nat} {top : Int} {tt : Tok} {news : Led} {g : Obj → Led}
    (B : Below A₀ base outer h₀) (F : Fr h₀ L s.heap m) (X : (hd.heap_39 w.params).In h₀) (N : News h₀ L s.heap news) (T : Top hd.view_39 (looseW hd.view_39 []) mean mg mb h₀) (hk : cs.kind = .function)
    (U : UpdF aS (listOf vs.toArray n) news g) (hi : IntsAre vs [x, y]) (hx : 0 ≤ x) (hy : 0 ≤ y ∧ y < 2147483647) (ht : 0 < top ∧ top < 1000)
    (hdp : dp + 1 < recursionLimit) (hun : un + 8 < cLine)
    (ret : ∀ c tg vs' x' y' h' tk', 0 ≤ c → c < top → IntsAre vs' [x', y'] → 0 ≤ x' → (0 ≤ y' ∧ y' < 2147483647) → Fr h₀ L h' m → News h₀ L h' (g (listOf vs'.toArray n)) → Q (.int c tg) {s with heap := h', toks := tk'}) :
    wpAny (model Challenge.rw_on0332_01.row.prog w) (ktrTop dp un gd cn cs L a ccd cl outer) (call (.ref 77) [.ref aS, .int top tt]) Q E s := by
  obtain ⟨pre, post, rfl, hg, ha, hb⟩ := U.split
  have N1 : News h₀ L s.heap ((aS, listOf vs.toArray n) :: (pre ++ post)) := fun p hp => N p (by
    simp only [List.mem_cons, List.mem_append] at hp ⊢
    rcases hp with hp | hp | hp
    · exact .inr (.inl hp)
    · exact .inl hp
    · exact .inr (.inr hp))
  refine take_ok B F X N1 T hk (fun p hp => (List.mem_append.mp hp).elim (ha p) (hb p)) hi hx hy ht hdp hun fun c tg vs' x' y' h' tk' a1 a2 a3 a4 a5 F' N' => ret c tg vs' x' y' h' tk' a1 a2 a3 a4 a5 F' fun p hp => N' p ?_
  rw [hg] at hp
  simp only [List.mem_cons, List.mem_append] at hp ⊢
  rcases hp with hp | hp | hp
  · exact .inr (.inl hp)
  · exact .inl hp
  · exact .inr (.inr hp)

theorem len_led {prog : Program} {w : World} {A : Around} {E : Value → Shared → Prop} {s : Shared} {h₀ : Heap} {L l : Addr} {news : Led} {us : List Value} {ns : List Int} {n : Nat} {Q : Value → Shared → Prop} (N : News h₀ L s.heap news) (hm : (l, listOf us.toArray n) ∈ news) (hi : IntsAre us ns) (hfit : ns.length < 1000000)
    (h : Q (.int (ns.length : Int) (s.toks + 1)) { s with toks := s.toks + 1 + 1 }) : wpAny (model prog w) A (call (.builtin "len") [.ref l]) Q E s := by
  have hl : s.heap.IsList l us.toArray := ⟨_, (N _ hm).1, rfl, n, rfl⟩
  have e : us.toArray.size = ns.length := by rw [List.size_toArray, hi.length]
  exact len_list hl (by rw [e]; omega) (by rw [e]; exact h)
local macro_rules | `(tactic| walk_at "call builtin:len") => `(tactic| (k_here; (with_reducible show wpAny _ _ (call (Value.builtin "len") [Value.ref _]) _ _ _); k_dflt (refine' len_led ?k1 ?k2 ?k3 ?k4 ?_; (case k1 => k_asm); (case k2 => k_mem); (case k3 => with_reducible assumption); (case k4 => omega); k_whole)))
local macro_rules | `(tactic| k_all) => `(tactic| first | assumption | exact OwnOff.ne (by assumption) (by k_memK))
local macro_rules | `(tactic| k_mem) => `(tactic| first | exact List.Mem.head _ | assumption | (refine' List.Mem.tail _ ?_; k_mem))
local macro_rules | `(tactic| walk_at "call ref") => `(tactic| (k_here; (with_reducible show wpAny _ _ (call (Value.ref 77) _ _) _ _ _); k_dflt (refine' take_use ?k1 ?k2 ?k3 ?k4 ?k5 ?k6 ?k7 ?k8 ?k9 ?k10 ?k11 ?k12 ?k13 ?_; (case k1 => k_asm); (case k2 => k_asm); (case k3 => k_asm); (case k4 => k_asm); (case k5 => k_asm); (case k6 => first | exact rfl | assumption); (case k7 => k_updF); (case k8 => assumption); (case k9 => first | assumption | omega); (case k10 => first | assumption | omega); (case k11 => first | assumption | omega); (case k12 => ktr_room); (case k13 => ktr_units); k_whole); intro gt tg vs' x' y' h' tk' hg0 hg1 hi' hx' hy' F' N'; (try dsimp only at N'); (try k_fold)))
theorem getD_mem {ns : List Int} {c : Int} (h0 : 0 ≤ c) (h1 : c < (ns.length : Int)) : ns.getD c.toNat 0 ∈ ns := by
  have h : c.toNat < ns.length := by omega
  rw [List.getD_eq_getElem?_getD, List.getElem?_eq_getElem h]
  exact List.getElem_mem h
theorem one_ok {w : World} {mean : ExcName → Option Value} {mg mb : Str → Option Value} {dp un : Nat} {gd : Option (List Code)} {cn : Str} {cs : Scope} {a : Addr} {ccd : Value} {cl : List (Str × Addr)} {outer : List Env} {A₀ : Around} {base h₀ : Heap} {L : Addr} {m : Str → Option Value} {s : Shared} {Q E : Value → Shared → Prop}
    {aS aT : Addr} {vs tv : List Value} {ns : List Int} {x y : Int} {n k : Nat} {rest : Led}
    (B : Below A₀ base outer h₀) (F : Fr h₀ L s.heap m) (X : (hd.heap_39 w.params).In h₀) (N : News h₀ L s.heap ((aS, listOf vs.toArray n) :: rest)) (T : Top hd.view_39 (looseW hd.view_39 []) mean mg mb h₀) (hk : cs.kind = .function)
    (off : OwnOff rest [aS]) (hT : (aT, listOf tv.toArray k) ∈ rest) (hti : IntsAre tv ns) (hns : 0 < ns.length ∧ ns.length < 1000) (hi : IntsAre vs [x, y]) (hx : 0 ≤ x) (hy : 0 ≤ y ∧ y < 2147483647)
    (hdp : dp + 2 < recursionLimit) (hun : un + 108 < cLine)
    (ret : ∀ c tg vs' x' y' h' tk', c ∈ ns → IntsAre vs' [x', y'] → 0 ≤ x' → (0 ≤ y' ∧ y' < 2147483647) → Fr h₀ L h' m → News h₀ L h' ((aS, listOf vs'.toArray n) :: rest) → Q (.int c tg) {s with heap := h', toks := tk'}) :
    wpAny (model Challenge.rw_on0332_01.row.prog w) (ktrTop dp un gd cn cs L a ccd cl outer) (call (.ref 84) [.ref aS, .ref aT]) Q E s := by
  revert X; k_fill; intro X; w_top off
  refine wpAny_call ?_
  k_dflt cell_enter
  k_steps
  refine' ret _ _ _ _ _ _ _ ?r1 ?r2 ?r3 ?r4 ?r5 ?r6
  case r6 => assumption
  case r5 => assumption
  case r2 => assumption
  case r3 => assumption
  case r4 => assumption
  case r1 => exact getD_mem (by assumption) (by assumption)

theorem one_use {w : World} {mean : ExcName → Option Value} {mg mb : Str → Option Value} {dp un : Nat} {gd : Option (List Code)} {cn : Str} {cs : Scope} {a : Addr} {ccd : Value} {cl : List (Str × Addr)} {outer : List Env} {A₀ : Around} {base h₀ : Heap} {L : Addr} {m : Str → Option Value} {s : Shared} {Q E : Value → Shared → Prop}
    {aS aT : Addr} {vs tv : List Value} {ns : List Int} {x y : Int} {n k : Nat} {news : Led} {g : Obj → Led}
    (B : Below A₀ base outer h₀) (F : Fr h₀ L s.heap m) (X : (hd.heap_39 w.params).In h₀) (N : News h₀ L s.heap news) (T : Top hd.view_39 (looseW hd.view_39 []) mean mg mb h₀) (hk : cs.kind = .function)
    (U : UpdF aS (listOf vs.toArray n) news g) (hT : (aT, listOf tv.toArray k) ∈ news) (hne : @Ne Nat aT aS) (hti : IntsAre tv ns) (hns : 0 < ns.length ∧ ns.length < 1000) (hi : IntsAre vs [x, y]) (hx : 0 ≤ x) (hy : 0 ≤ y ∧ y < 2147483647)
    (hdp : dp + 2 < recursionLimit) (hun : un + 108 < cLine)
    (ret : ∀ c tg vs' x' y' h' tk', c ∈ ns → IntsAre vs' [x', y'] → 0 ≤ x' → (0 ≤ y' ∧ y' < 2147483647) → Fr h₀ L h' m → News h₀ L h' (g (listOf vs'.toArray n)) → Q (.int c tg) {s with heap := h', toks := tk'}) :
    wpAny (model Challenge.rw_on0332_01.row.prog w) (ktrTop dp un gd cn cs L a ccd cl outer) (call (.ref 84) [.ref aS, .ref aT]) Q E s := by
  obtain ⟨pre, post, rfl, hg, ha, hb⟩ := U.split
  have N1 : News h₀ L s.heap ((aS, listOf vs.toArray n) :: (pre ++ post)) := fun p hp => N p (by
    simp only [List.mem_cons, List.mem_append] at hp ⊢
    rcases hp with hp | hp | hp
    · exact .inr (.inl hp)
    · exact .inl hp
    · exact .inr (.inr hp))
  have hT1 : (aT, listOf tv.toArray k) ∈ pre ++ post := by
    simp only [List.mem_cons, List.mem_append] at hT ⊢
    rcases hT with hp | hp | hp
    · exact .inl hp
    · exact absurd (congrArg Prod.fst hp) hne
    · exact .inr hp
  refine one_ok B F X N1 T hk (fun p hp b hq => by cases List.mem_singleton.mp hq; exact (List.mem_append.mp hp).elim (ha p) (hb p)) hT1 hti hns hi hx hy hdp hun fun c tg vs' x' y' h' tk' a1 a3 a4 a5 F' N' => ret c tg vs' x' y' h' tk' a1 a3 a4 a5 F' fun p hp => N' p ?_
  rw [hg] at hp
  simp only [List.mem_cons, List.mem_append] at hp ⊢
  rcases hp with hp | hp | hp
  · exact .inr (.inl hp)
  · exact .inl hp
  · exact .inr (.inr hp)
local macro_rules | `(tactic| walk_at "call ref") => `(tactic| (k_here; (with_reducible show wpAny _ _ (call (Value.ref 84) _ _) _ _ _); k_dflt (refine' one_use ?k1 ?k2 ?k3 ?k4 ?k5 ?k6 ?k7 ?k8 ?k9 ?k10 ?k11 ?k12 ?k13 ?k14 ?k15 ?k16 ?_; (case k1 => k_asm); (case k2 => k_asm); (case k3 => k_asm); (case k4 => k_asm); (case k5 => k_asm); (case k6 => first | exact rfl | assumption); (case k7 => k_updF); (case k8 => k_mem); (case k9 => k_ne); (case k10 => first | with_reducible assumption | exact IntsAre.cons _ _ (IntsAre.cons _ _ (IntsAre.cons _ _ IntsAre.nil)) | exact IntsAre.cons _ _ (IntsAre.cons _ _ (IntsAre.cons _ _ (IntsAre.cons _ _ (IntsAre.cons _ _ (IntsAre.cons _ _ (IntsAre.cons _ _ (IntsAre.nil)))))))); (case k11 => (simp only [List.length_cons, List.length_nil]; omega)); (case k12 => assumption); (case k13 => first | assumption | omega); (case k14 => first | assumption | omega); (case k15 => ktr_room); (case k16 => ktr_units); k_whole); intro gt tg vs' x' y' h' tk' hg0 hi' hx' hy' F' N'; (try dsimp only at N'); (try k_fold)))
local macro_rules | `(tactic| ktr_rel) => `(tactic| first | exact allLt_at (by assumption) _ (by assumption) | exact allLt_at (And.right (by assumption)) _ (by assumption) | exact allLt_at (And.right (And.right (by assumption))) _ (by assumption) | exact allLt_at (And.right (And.right (And.right (by assumption)))) _ (by assumption) | exact allLt_at (And.right (And.right (And.right (And.right (by assumption))))) _ (by assumption) | exact allLt_at (And.right (And.right (And.right (And.right (And.right (by assumption)))))) _ (by assumption))
theorem perm3 {h₀ h : Heap} {L : Addr} {a b c d : Addr × Obj} {rest : Led} (N : News h₀ L h (a :: b :: c :: d :: rest)) : News h₀ L h (d :: ([a, b, c] ++ rest)) := fun p hp => N p (by
  simp only [List.cons_append, List.nil_append, List.mem_cons] at hp ⊢
  rcases hp with hp | hp | hp | hp | hp
  · exact .inr (.inr (.inr (.inl hp)))
  · exact .inl hp
  · exact .inr (.inl hp)
  · exact .inr (.inr (.inl hp))
  · exact .inr (.inr (.inr (.inr hp))))
def IsStretch (led : Led) (v : Value) : Prop := ∃ a b e t1 t2 n, v = .ref a ∧ (a, ({ cls := .type "tuple", data := .seq #[.int b t1, .int e t2] n } : Obj)) ∈ led
theorem stretch_none {w : World} {mean : ExcName → Option Value} {mg mb : Str → Option Value} {dp un : Nat} {gd : Option (List Code)} {cn : Str} {cs : Scope} {a : Addr} {ccd : Value} {cl : List (Str × Addr)} {outer : List Env} {A₀ : Around} {base h₀ : Heap} {L : Addr} {m : Str → Option Value} {s : Shared} {Q E : Value → Shared → Prop}
    {aS : Addr} {vs : List Value} {x y most : Int} {tm : Tok} {n : Nat} {rest : Led}
    (B : Below A₀ base outer h₀) (F : Fr h₀ L s.heap m) (X : (hd.heap_39 w.params).In h₀) (N : News h₀ L s.heap ((aS, listOf vs.toArray n) :: rest)) (T : Top hd.view_39 (looseW hd.view_39 []) mean mg mb h₀) (hk : cs.kind = .function)
    (off : OwnOff rest [aS]) (hm : 0 < most ∧ most < 1000) (hi : IntsAre vs [x, y]) (hx : 0 ≤ x) (hy : 0 ≤ y ∧ y < 2147483647)
    (hdp : dp + 3 < recursionLimit) (hun : un + 208 < cLine)
    (ret : ∀ v add vs' x' y' h' tk', (∀ q ∈ (aS, listOf vs.toArray n) :: rest, ∀ p ∈ add, q.1 < p.1) → IsStretch add v → IntsAre vs' [x', y'] → 0 ≤ x' → (0 ≤ y' ∧ y' < 2147483647) → Fr h₀ L h' m → News h₀ L h' ((aS, listOf vs'.toArray n) :: (add ++ rest)) → Q v {s with heap := h', toks := tk'}) :
    wpAny (model Challenge.rw_on0332_01.row.prog w) (ktrTop dp un gd cn cs L a ccd cl outer) (call (.ref 105) [.ref aS, .int most tm, .none]) Q E s := by
  revert X; k_fill; intro X; w_top off
  refine wpAny_call ?_
  k_dflt cell_enter
  k_steps
  · refine' ret _ [_, _, _] _ _ _ _ _ ?r1 ?r2 ?r3 ?r4 ?r5 ?r6 ?r7
    case r6 => assumption
    case r7 => exact perm3 (by assumption)
    case r1 =>
      intro q hq p hp
      simp only [List.mem_cons, List.not_mem_nil, or_false] at hp
      rcases hp with rfl | rfl | rfl <;> (rcases List.mem_cons.mp hq with rfl | hq <;> first | (refine ltN ?_; dsimp only; omega) | ktr_rel)
    case r2 => exact ⟨_, _, _, _, _, _, rfl, .head _⟩
    case r3 => assumption
    case r4 => assumption
    case r5 => assumption
theorem stretch_some {w : World} {mean : ExcName → Option Value} {mg mb : Str → Option Value} {dp un : Nat} {gd : Option (List Code)} {cn : Str} {cs : Scope} {a : Addr} {ccd : Value} {cl : List (Str × Addr)} {outer : List Env} {A₀ : Around} {base h₀ : Heap} {L : Addr} {m : Str → Option Value} {s : Shared} {Q E : Value → Shared → Prop}
    {aS : Addr} {vs : List Value} {x y most : Int} {tm : Tok} {n : Nat} {rest : Led}
    (B : Below A₀ base outer h₀) (F : Fr h₀ L s.heap m) (X : (hd.heap_39 w.params).In h₀) (N : News h₀ L s.heap ((aS, listOf vs.toArray n) :: rest)) (T : Top hd.view_39 (looseW hd.view_39 []) mean mg mb h₀) (hk : cs.kind = .function)
    {lv : Value} (hlv : IsStretch rest lv) (off : OwnOff rest [aS]) (hm : 0 < most ∧ most < 1000) (hi : IntsAre vs [x, y]) (hx : 0 ≤ x) (hy : 0 ≤ y ∧ y < 2147483647)
    (hdp : dp + 3 < recursionLimit) (hun : un + 208 < cLine)
    (ret : ∀ v add vs' x' y' h' tk', (∀ q ∈ (aS, listOf vs.toArray n) :: rest, ∀ p ∈ add, q.1 < p.1) → (IsStretch add v ∨ v = lv) → IntsAre vs' [x', y'] → 0 ≤ x' → (0 ≤ y' ∧ y' < 2147483647) → Fr h₀ L h' m → News h₀ L h' ((aS, listOf vs'.toArray n) :: (add ++ rest)) → Q v {s with heap := h', toks := tk'}) :
    wpAny (model Challenge.rw_on0332_01.row.prog w) (ktrTop dp un gd cn cs L a ccd cl outer) (call (.ref 105) [.ref aS, .int most tm, lv]) Q E s := by
  obtain ⟨aP, pb, pe, p1, p2, pn, rfl, hP⟩ := hlv
  revert X; k_fill; intro X; w_top off
  refine wpAny_call ?_
  k_dflt cell_enter
  k_steps
  · refine' ret _ [] _ _ _ _ _ ?r1 ?r2 ?r3 ?r4 ?r5 ?r6 ?r7
    case r6 => assumption
    case r7 => assumption
    case r1 => exact fun _ _ _ hp => nomatch hp
    case r2 => exact .inr rfl
    case r3 => assumption
    case r4 => assumption
    case r5 => assumption
  · refine' ret _ [_, _, _] _ _ _ _ _ ?r1 ?r2 ?r3 ?r4 ?r5 ?r6 ?r7
    case r6 => assumption
    case r7 => exact perm3 (by assumption)
    case r1 =>
      intro q hq p hp
      simp only [List.mem_cons, List.not_mem_nil, or_false] at hp
      rcases hp with rfl | rfl | rfl <;> (rcases List.mem_cons.mp hq with rfl | hq <;> first | (refine ltN ?_; dsimp only; omega) | ktr_rel)
    case r2 => exact .inl ⟨_, _, _, _, _, _, rfl, .head _⟩
    case r3 => assumption
    case r4 => assumption
    case r5 => assumption
end Mine

namespace Mine
local macro_rules | `(tactic| k_all) => `(tactic| first | assumption | exact OwnOff.ne (by assumption) (by k_memK))
local macro_rules | `(tactic| k_mem) => `(tactic| first | exact List.Mem.head _ | assumption | (refine List.mem_append.mpr (Or.inl ?_); assumption) | (refine List.mem_append.mpr (Or.inr ?_); k_mem) | (refine' List.Mem.tail _ ?_; k_mem))
local macro_rules | `(tactic| kqd_sub) => `(tactic| first | exact fun _ h => h | exact fun _ h => List.mem_append.mpr (.inl h) | exact fun _ h => List.mem_append.mpr (.inr h) | exact fun _ h => .tail _ (List.mem_append.mpr (.inl h)) | exact fun _ h => .tail _ (List.mem_append.mpr (.inr h)))
local macro_rules | `(tactic| walk_at "subscriptTail") => `(tactic| (k_here; (with_reducible show wpAny _ _ (subscriptTail _ _ (Value.ref _) (Value.int (-1) _)) _ _ _); (with_unfolding_all refine' last_sub ?k1 ?k2 ?k3 ?_ ?k4; (case k1 => k_asm); (case k2 => k_mem); (case k3 => assumption); (case k4 => with_unfolding_all rfl); k_whole)))
def reachV (ps : List (Int × Int)) (most : Int) : Int :=
  match ps.getLast? with
  | none => most
  | some p => if p.2 = most then p.1 else most
theorem dat_snoc {led : Led} {vs : List Value} {ps init : List (Int × Int)} {p : Int × Int} (hD : DatAll led vs (ps.map pd)) (h : ps = init ++ [p]) :
    ∃ us aT u1 u2 n, vs = us ++ [.ref aT] ∧ us.length = init.length ∧ (aT, ({ cls := .type "tuple", data := .seq #[.int p.1 u1, .int p.2 u2] n } : Obj)) ∈ led := by
  subst h
  obtain ⟨us, u, rfl⟩ : ∃ us u, vs = us ++ [u] := by
    have h1 := hD.length
    simp at h1
    have h2 : vs ≠ [] := by intro e; rw [e] at h1; simp at h1
    exact ⟨_, _, (List.dropLast_concat_getLast h2).symm⟩
  obtain ⟨es, d, hes, dU, dL⟩ := DatAll.snoc hD
  rw [List.map_append] at hes
  obtain ⟨rfl, rfl⟩ : es = init.map pd ∧ d = pd p := by
    have := List.append_inj' hes rfl
    simp at this
    exact ⟨this.1.symm, this.2.symm⟩
  obtain ⟨aT, u1, u2, n, rfl, hT⟩ := pd_in dL
  exact ⟨us, aT, u1, u2, n, rfl, by rw [dU.length, List.length_map], hT⟩
theorem dat_nil {led : Led} {vs : List Value} {ps : List (Int × Int)} (hD : DatAll led vs (ps.map pd)) (h : ps = []) : vs = [] := by
  subst h; cases hD; rfl
theorem list_ends {α : Type} (l : List α) : l = [] ∨ ∃ init p, l = init ++ [p] := by
  by_cases h : l = []
  · exact .inl h
  · exact .inr ⟨_, _, (List.dropLast_concat_getLast h).symm⟩
theorem fresh1 {rest : Led} {a : Addr} {o : Obj} (h : ∀ p ∈ rest, p.1 < a) : ∀ q ∈ rest, ∀ p ∈ [(a, o)], q.1 < p.1 := fun q hq p hp => by
  cases List.mem_singleton.mp hp; exact h q hq
theorem reach_ok {w : World} {mean : ExcName → Option Value} {mg mb : Str → Option Value} {dp un : Nat} {gd : Option (List Code)} {cn : Str} {cs : Scope} {a : Addr} {ccd : Value} {cl : List (Str × Addr)} {outer : List Env} {A₀ : Around} {base h₀ : Heap} {L : Addr} {m : Str → Option Value} {s : Shared} {Q E : Value → Shared → Prop}
    {x dx r : Addr} {t1 t2 tm : Tok} {most : Int} {rv : List Value} {k : Nat} {ps : List (Int × Int)} {rest : Led}
    (B : Below A₀ base outer h₀) (F : Fr h₀ L s.heap m) (X : (hd.heap_39 w.params).In h₀) (N : News h₀ L s.heap rest) (T : Top hd.view_39 (looseW hd.view_39 []) mean mg mb h₀) (hk : cs.kind = .function)
    (hx : (x, instObj 59 dx) ∈ rest) (hdx : (dx, holesD w t1 t2 (.int most tm) (.ref r)) ∈ rest) (hr : (r, listOf rv.toArray k) ∈ rest) (hD : DatAll rest rv (ps.map pd)) (hps : ps.length < 1000)
    (hdp : dp + 1 < recursionLimit) (hun : un + 108 < cLine)
    (ret : ∀ t h' tk', Fr h₀ L h' m → News h₀ L h' rest → Q (.int (reachV ps most) t) {s with heap := h', toks := tk'}) :
    wpAny (model Challenge.rw_on0332_01.row.prog w) (ktrTop dp un gd cn cs L a ccd cl outer) (call (.ref 49) [.ref x]) Q E s := by
  revert X; k_fill; intro X; w_top off
  have ret2 : ∀ v t h' tk', v = reachV ps most → Fr h₀ L h' m → News h₀ L h' rest → Q (.int v t) {s with heap := h', toks := tk'} := by
    intro v t h' tk' e; subst e; exact ret t h' tk'
  clear ret
  rcases list_ends ps with hp | ⟨init, ⟨lo, hi⟩, hp⟩
  · have e := dat_nil hD hp
    subst e hp
    refine wpAny_call ?_
    k_dflt cell_enter
    k_steps
    · refine' ret2 _ _ _ _ ?e ?F ?N
      case F => assumption
      case N => (rename News h₀ _ _ _ => N9); exact fun p hp => N9 p (by k_mem)
      case e => first | (simp [reachV, *]; done) | (simp [reachV]; intro h9; exact absurd (by assumption) h9)
  · obtain ⟨us, aT, u1, u2, nT, rfl, hus, hT⟩ := dat_snoc hD hp
    subst hp
    have hus2 : us.length < 1000000 := by rw [List.length_append] at hps; omega
    refine wpAny_call ?_
    k_dflt cell_enter
    k_steps
    · exact absurd (of_decide_eq_true (by assumption)) (by simp)
    · refine' ret2 _ _ _ _ ?e ?F ?N
      case F => assumption
      case N => (rename News h₀ _ _ _ => N9); exact fun p hp => N9 p (by k_mem)
      case e => first | (simp [reachV, *]; done) | (simp [reachV]; intro h9; exact absurd (by assumption) h9)
    · refine' ret2 _ _ _ _ ?e ?F ?N
      case F => assumption
      case N => (rename News h₀ _ _ _ => N9); exact fun p hp => N9 p (by k_mem)
      case e => first | (simp [reachV, *]; done) | (simp [reachV]; intro h9; exact absurd (by assumption) h9)
theorem whole_ok {w : World} {mean : ExcName → Option Value} {mg mb : Str → Option Value} {dp un : Nat} {gd : Option (List Code)} {cn : Str} {cs : Scope} {a : Addr} {ccd : Value} {cl : List (Str × Addr)} {outer : List Env} {A₀ : Around} {base h₀ : Heap} {L : Addr} {m : Str → Option Value} {s : Shared} {Q E : Value → Shared → Prop}
    {x dx r : Addr} {t1 t2 : Tok} {vm : Value} {rv : List Value} {k : Nat} {ps : List (Int × Int)} {rest : Led}
    (B : Below A₀ base outer h₀) (F : Fr h₀ L s.heap m) (X : (hd.heap_39 w.params).In h₀) (N : News h₀ L s.heap rest) (T : Top hd.view_39 (looseW hd.view_39 []) mean mg mb h₀) (hk : cs.kind = .function)
    (hx : (x, instObj 59 dx) ∈ rest) (hdx : (dx, holesD w t1 t2 vm (.ref r)) ∈ rest) (hr : (r, listOf rv.toArray k) ∈ rest) (hD : DatAll rest rv (ps.map pd))
    (hdp : dp + 1 < recursionLimit) (hun : un + 108 < cLine)
    (ret : ∀ h' tk', Fr h₀ L h' m → News h₀ L h' rest → Q (.bool (decide (ps = []))) {s with heap := h', toks := tk'}) :
    wpAny (model Challenge.rw_on0332_01.row.prog w) (ktrTop dp un gd cn cs L a ccd cl outer) (call (.ref 56) [.ref x]) Q E s := by
  revert X; k_fill; intro X; w_top off
  have ret2 : ∀ v h' tk', v = decide (ps = []) → Fr h₀ L h' m → News h₀ L h' rest → Q (.bool v) {s with heap := h', toks := tk'} := by
    intro v h' tk' e; subst e; exact ret h' tk'
  clear ret
  refine wpAny_call ?_
  k_dflt cell_enter
  k_steps
  refine' ret2 _ _ _ ?e ?F ?N
  case F => assumption
  case N => (rename News h₀ _ _ _ => N9); exact fun p hp => N9 p (by k_mem)
  case e => simp
theorem reach_use {w : World} {mean : ExcName → Option Value} {mg mb : Str → Option Value} {dp un : Nat} {gd : Option (List Code)} {cn : Str} {cs : Scope} {a : Addr} {ccd : Value} {cl : List (Str × Addr)} {outer : List Env} {A₀ : Around} {base h₀ : Heap} {L : Addr} {m : Str → Option Value} {s : Shared} {Q E : Value → Shared → Prop}
    {x dx r : Addr} {t1 t2 tm : Tok} {most v : Int} {rv : List Value} {k : Nat} {ps : List (Int × Int)} {rest : Led}
    (B : Below A₀ base outer h₀) (F : Fr h₀ L s.heap m) (X : (hd.heap_39 w.params).In h₀) (N : News h₀ L s.heap rest) (T : Top hd.view_39 (looseW hd.view_39 []) mean mg mb h₀) (hk : cs.kind = .function)
    (hx : (x, instObj 59 dx) ∈ rest) (hdx : (dx, holesD w t1 t2 (.int most tm) (.ref r)) ∈ rest) (hr : (r, listOf rv.toArray k) ∈ rest) {n₁ : Led} (hD : DatAll n₁ rv (ps.map pd)) (hs : ∀ p ∈ n₁, p ∈ rest) (hv : reachV ps most = v) (hps : ps.length < 1000)
    (hdp : dp + 1 < recursionLimit) (hun : un + 108 < cLine)
    (ret : ∀ t h' tk', Fr h₀ L h' m → News h₀ L h' rest → Q (.int v t) {s with heap := h', toks := tk'}) :
    wpAny (model Challenge.rw_on0332_01.row.prog w) (ktrTop dp un gd cn cs L a ccd cl outer) (call (.ref 49) [.ref x]) Q E s := by
  subst hv
  exact reach_ok B F X N T hk hx hdx hr (hD.mono hs) hps hdp hun ret
theorem whole_use {w : World} {mean : ExcName → Option Value} {mg mb : Str → Option Value} {dp un : Nat} {gd : Option (List Code)} {cn : Str} {cs : Scope} {a : Addr} {ccd : Value} {cl : List (Str × Addr)} {outer : List Env} {A₀ : Around} {base h₀ : Heap} {L : Addr} {m : Str → Option Value} {s : Shared} {Q E : Value → Shared → Prop}
    {x dx r : Addr} {t1 t2 : Tok} {vm : Value} {rv : List Value} {k : Nat} {ps : List (Int × Int)} {rest : Led}
    (B : Below A₀ base outer h₀) (F : Fr h₀ L s.heap m) (X : (hd.heap_39 w.params).In h₀) (N : News h₀ L s.heap rest) (T : Top hd.view_39 (looseW hd.view_39 []) mean mg mb h₀) (hk : cs.kind = .function)
    (hx : (x, instObj 59 dx) ∈ rest) (hdx : (dx, holesD w t1 t2 vm (.ref r)) ∈ rest) (hr : (r, listOf rv.toArray k) ∈ rest) {n₁ : Led} (hD : DatAll n₁ rv (ps.map pd)) (hs : ∀ p ∈ n₁, p ∈ rest) {v : Bool} (hv : decide (ps = []) = v)
    (hdp : dp + 1 < recursionLimit) (hun : un + 108 < cLine)
    (ret : ∀ h' tk', Fr h₀ L h' m → News h₀ L h' rest → Q (.bool v) {s with heap := h', toks := tk'}) :
    wpAny (model Challenge.rw_on0332_01.row.prog w) (ktrTop dp un gd cn cs L a ccd cl outer) (call (.ref 56) [.ref x]) Q E s := by
  subst hv
  exact whole_ok B F X N T hk hx hdx hr (hD.mono hs) hdp hun ret
theorem runs_nil_iff (ns : List Int) : runs ns = [] ↔ ns = [] := by
  have ne : ∀ (acc : List (Int × Int)) (x : Int), runStep acc x ≠ [] := by
    intro acc x
    unfold runStep
    split
    · simp
    · split <;> simp
  have all : ∀ (ns : List Int) (acc : List (Int × Int)), acc ≠ [] → ns.foldl runStep acc ≠ [] := by
    intro ns
    induction ns with
    | nil => intro acc h; exact h
    | cons x r ih => intro acc _; exact ih _ (ne acc x)
  cases ns with
  | nil => simp [runs]
  | cons x r => simp only [runs, List.foldl_cons, reduceCtorEq, iff_false]; exact all r _ (ne [] x)
local macro_rules | `(tactic| kqd_sub) => `(tactic| (intro p9 h9; k_mem))
local macro_rules | `(tactic| ktr_rel) => `(tactic| first | (have e9 := dat_nil (by assumption) (by assumption); subst e9) | (obtain ⟨us9, aT9, u19, u29, n9, e9, hus9, hT9⟩ := dat_snoc (by assumption) (by assumption); subst e9; have hus8 : us9.length < 1000000 := by omega))
local macro_rules | `(tactic| walk_at "call ref") => `(tactic| (k_here; (with_reducible show wpAny _ _ (call (Value.ref 91) _ _) _ _ _); k_dflt (refine' runs_ok ?k1 ?k2 ?k3 ?k4 ?k5 ?k6 ?k7 ?k8 ?k9 ?k10 ?k11 ?_; (case k1 => k_asm); (case k2 => k_asm); (case k3 => k_asm); (case k4 => k_asm); (case k5 => k_asm); (case k6 => first | exact rfl | assumption); (case k7 => k_mem); (case k8 => assumption); (case k9 => omega); (case k10 => ktr_room); (case k11 => ktr_units); k_whole); intro f9 fv9 nf9 add9 h' tk' hlt9 hf9 hD9 F' N'; (first | (have e9 := dat_nil hD9 (by assumption); subst e9) | (obtain ⟨us9, aT9, u19, u29, n9, e9, hus9, hT9⟩ := dat_snoc hD9 (by assumption); subst e9; have hus8 : us9.length < 1000000 := by omega)); (try k_fold)))
local macro_rules | `(tactic| walk_at "call ref") => `(tactic| (k_here; (with_reducible show wpAny _ _ (call (Value.ref 49) _ _) _ _ _); k_dflt (refine' reach_use ?k1 ?k2 ?k3 ?k4 ?k5 ?k6 ?k7 ?k8 ?k9 ?k10 ?k10b ?k10c ?k11 ?k12 ?k13 ?_; (case k1 => k_asm); (case k2 => k_asm); (case k3 => k_asm); (case k4 => k_asm); (case k5 => k_asm); (case k6 => first | exact rfl | assumption); (case k7 => k_mem); (case k8 => k_mem); (case k9 => k_mem); (case k10 => with_reducible assumption); (case k10b => kqd_sub); (case k10c => assumption); (case k11 => omega); (case k12 => ktr_room); (case k13 => ktr_units); k_whole); intro t9 h' tk' F' N'; (try k_fold)))
local macro_rules | `(tactic| walk_at "call ref") => `(tactic| (k_here; (with_reducible show wpAny _ _ (call (Value.ref 56) _ _) _ _ _); k_dflt (refine' whole_use ?k1 ?k2 ?k3 ?k4 ?k5 ?k6 ?k7 ?k8 ?k9 ?k10 ?k10b ?k10c ?k12 ?k13 ?_; (case k1 => k_asm); (case k2 => k_asm); (case k3 => k_asm); (case k4 => k_asm); (case k5 => k_asm); (case k6 => first | exact rfl | assumption); (case k7 => k_mem); (case k8 => k_mem); (case k9 => k_mem); (case k10 => with_reducible assumption); (case k10b => kqd_sub); (case k10c => assumption); (case k12 => ktr_room); (case k13 => ktr_units); k_whole); intro h' tk' F' N'; (try k_fold)))
theorem ints_dat {led : Led} : ∀ {vs : List Value} {ns : List Int}, IntsAre vs ns → DatAll led vs (ns.map Dat.int)
  | _, _, .nil => .nil
  | _, _, .cons n t h => .cons (.int n t) (ints_dat h)
theorem stands_ok {w : World} {mean : ExcName → Option Value} {mg mb : Str → Option Value} {dp un : Nat} {gd : Option (List Code)} {cn : Str} {cs : Scope} {a : Addr} {ccd : Value} {cl : List (Str × Addr)} {outer : List Env} {A₀ : Around} {base h₀ : Heap} {L : Addr} {m : Str → Option Value} {s : Shared} {Q E : Value → Shared → Prop}
    {x dx r aL : Addr} {t1 t2 tm tm2 : Tok} {most : Int} {rv lv : List Value} {k kl : Nat} {ns : List Int} {rest : Led}
    (B : Below A₀ base outer h₀) (F : Fr h₀ L s.heap m) (X : (hd.heap_39 w.params).In h₀) (N : News h₀ L s.heap rest) (T : Top hd.view_39 (looseW hd.view_39 []) mean mg mb h₀) (hk : cs.kind = .function)
    (hx : (x, instObj 59 dx) ∈ rest) (hdx : (dx, holesD w t1 t2 (.int most tm) (.ref r)) ∈ rest) (hr : (r, listOf rv.toArray k) ∈ rest) (hL : (aL, listOf lv.toArray kl) ∈ rest) (hD : DatAll rest rv ((runs ns).map pd)) (hi : IntsAre lv ns) (hns : ns.length < 1000)
    (hdp : dp + 2 < recursionLimit) (hun : un + 308 < cLine)
    (ret : ∀ h' tk', Fr h₀ L h' m → News h₀ L h' rest → Q (.bool true) {s with heap := h', toks := tk'}) :
    wpAny (model Challenge.rw_on0332_01.row.prog w) (ktrTop dp un gd cn cs L a ccd cl outer) (call (.ref 98) [.ref x, .ref aL, .int most tm2]) Q E s := by
  revert X; k_fill; intro X; w_top off
  have hrl : (runs ns).length < 1000 := Nat.lt_of_le_of_lt (runs_len ns) hns
  have hni := runs_nil_iff ns
  have ret2 : ∀ v h' tk', v = true → Fr h₀ L h' m → News h₀ L h' rest → Q (.bool v) {s with heap := h', toks := tk'} := by
    intro v h' tk' e; subst e; exact ret h' tk'
  clear ret
  have hLD : DatAll rest lv (ns.map Dat.int) := ints_dat hi
  rcases list_ends (runs ns) with hp | ⟨init, ⟨lo, hi⟩, hp⟩
  · have hv : reachV (runs ns) most = most := by rw [hp]; rfl
    have hw : decide (runs ns = []) = true := decide_eq_true hp
    have hw2 : decide ((runs ns).map pd = []) = true := by rw [hp]; rfl
    have hnn : ns = [] := hni.mp hp
    refine wpAny_call ?_
    k_dflt cell_enter
    k_steps
    all_goals (refine' ret2 _ _ _ ?e ?F ?N; (case F => assumption); (case N => ((rename News h₀ _ _ _ => N9); exact fun p hp => N9 p (by k_mem))); (case e => first | (simp [*]; done) | (simp [*, runs]; done)))
  · have hw : decide (runs ns = []) = false := decide_eq_false (by rw [hp]; simp)
    have hw2 : decide ((runs ns).map pd = []) = false := decide_eq_false (by rw [hp]; simp)
    have hnn : ns ≠ [] := fun e => by rw [hni.mpr e] at hp; simp at hp
    have hil : init.length < 1000 := by rw [hp, List.length_append] at hrl; omega
    by_cases hm : hi = most
    · have hv : reachV (runs ns) most = lo := by rw [hp]; simp [reachV]; intro h9; exact absurd hm h9
      refine wpAny_call ?_
      k_dflt cell_enter
      k_steps
      all_goals (refine' ret2 _ _ _ ?e ?F ?N; (case F => assumption); (case N => ((rename News h₀ _ _ _ => N9); exact fun p hp => N9 p (by k_mem))); (case e => first | (simp [*]; done) | (simp [*, runs]; done)))
    · have hv : reachV (runs ns) most = most := by rw [hp]; simp [reachV, hm]
      refine wpAny_call ?_
      k_dflt cell_enter
      k_steps
      all_goals (refine' ret2 _ _ _ ?e ?F ?N; (case F => assumption); (case N => ((rename News h₀ _ _ _ => N9); exact fun p hp => N9 p (by k_mem))); (case e => first | (simp [*]; done) | (simp [*, runs]; done)))
end Mine

namespace Mine
local macro_rules | `(tactic| k_all) => `(tactic| first | assumption | exact OwnOff.ne (by assumption) (by k_memK))
local macro_rules | `(tactic| k_mem) => `(tactic| first | exact List.Mem.head _ | assumption | (refine List.mem_append.mpr (Or.inl ?_); assumption) | (refine List.mem_append.mpr (Or.inr ?_); k_mem) | (refine' List.Mem.tail _ ?_; k_mem))
local macro_rules | `(tactic| kqd_sub) => `(tactic| (intro p9 h9; k_mem))
theorem fill_use {w : World} {mean : ExcName → Option Value} {mg mb : Str → Option Value} {dp un : Nat} {gd : Option (List Code)} {cn : Str} {cs : Scope} {a : Addr} {ccd : Value} {cl : List (Str × Addr)} {outer : List Env} {A₀ : Around} {base h₀ : Heap} {L : Addr} {m : Str → Option Value} {s : Shared} {Q E : Value → Shared → Prop}
    {x dx r : Addr} {t1 t2 : Tok} {vm : Value} {rv : List Value} {k : Nat} {ps : List (Int × Int)} {b e : Int} {tb te : Tok} {news n₁ : Led} {g : Obj → Led}
    (B : Below A₀ base outer h₀) (F : Fr h₀ L s.heap m) (X : (hd.heap_39 w.params).In h₀) (N : News h₀ L s.heap news) (T : Top hd.view_39 (looseW hd.view_39 []) mean mg mb h₀) (hk : cs.kind = .function)
    (U : UpdF dx (holesD w t1 t2 vm (.ref r)) news g) (hx : (x, instObj 59 dx) ∈ news) (hxd : @Ne Nat x dx) (hr : (r, listOf rv.toArray k) ∈ news) (hrd : @Ne Nat r dx) (hD : DatAll n₁ rv (ps.map pd)) (hs : ∀ p ∈ n₁, p ∈ news) (ho : ∀ p ∈ n₁, p.1 ≠ dx) (hps0 : ps.length < 1000)
    (hdp : dp + 1 < recursionLimit) (hun : un + 8 < cLine)
    (ret : ∀ f fv nf r' rv' nr add h' tk', (∀ q ∈ news, ∀ p ∈ add, q.1 < p.1) → (f, listOf fv.toArray nf) ∈ add → (r', listOf rv'.toArray nr) ∈ add → DatAll add fv ((cutF b e ps).map pd) → DatAll add rv' ((cutR b e ps).map pd) →
      Fr h₀ L h' m → News h₀ L h' (add ++ g (holesD w t1 t2 vm (.ref r'))) → Q (.ref f) {s with heap := h', toks := tk'}) :
    wpAny (model Challenge.rw_on0332_01.row.prog w) (ktrTop dp un gd cn cs L a ccd cl outer) (call (.ref 35) [.ref x, .int b tb, .int e te]) Q E s := by
  obtain ⟨pre, post, rfl, hg, ha, hb⟩ := U.split
  have nd : ∀ {p : Addr × Obj}, p ∈ pre ++ (dx, holesD w t1 t2 vm (.ref r)) :: post → p.1 ≠ dx → p ∈ pre ++ post := by
    intro p hp hne
    simp only [List.mem_cons, List.mem_append] at hp ⊢
    rcases hp with hp | hp | hp
    · exact .inl hp
    · exact absurd (congrArg Prod.fst hp) hne
    · exact .inr hp
  have up : ∀ {p : Addr × Obj}, p ∈ (dx, holesD w t1 t2 vm (.ref r)) :: (pre ++ post) → p ∈ pre ++ (dx, holesD w t1 t2 vm (.ref r)) :: post := by
    intro p hp
    simp only [List.mem_cons, List.mem_append] at hp ⊢
    rcases hp with hp | hp | hp
    · exact .inr (.inl hp)
    · exact .inl hp
    · exact .inr (.inr hp)
  have down : ∀ {p : Addr × Obj}, p ∈ pre ++ (dx, holesD w t1 t2 vm (.ref r)) :: post → p ∈ (dx, holesD w t1 t2 vm (.ref r)) :: (pre ++ post) := by
    intro p hp
    simp only [List.mem_cons, List.mem_append] at hp ⊢
    rcases hp with hp | hp | hp
    · exact .inr (.inl hp)
    · exact .inl hp
    · exact .inr (.inr hp)
  refine fill_ok B F X (fun p hp => N p (up hp)) T hk (fun p hp b hq => by cases List.mem_singleton.mp hq; exact (List.mem_append.mp hp).elim (ha p) (hb p)) (nd hx hxd) (nd hr hrd) (hD.mono fun p hp => nd (hs p hp) (ho p hp)) hps0 hdp hun fun f fv nf r' rv' nr add h' tk' a1 a2 a3 a4 a5 F' N' => ret f fv nf r' rv' nr add h' tk' (fun q hq => a1 q (down hq)) a2 a3 a4 a5 F' fun p hp => N' p ?_
  rw [hg] at hp
  simp only [List.mem_cons, List.mem_append] at hp ⊢
  rcases hp with hp | hp | hp | hp
  · exact .inr (.inl hp)
  · exact .inr (.inr (.inl hp))
  · exact .inl hp
  · exact .inr (.inr (.inr hp))
theorem filt_notin (ns : List Int) (q : Int → Bool) : ns.filter (fun k => decide (k ∉ ns.filter q)) = ns.filter (fun k => !q k) := by
  refine List.filter_congr fun k hk => ?_
  cases h : q k <;> simp [List.mem_filter, hk, h]
theorem in_due {k : Int} {due : List Int} {inst : Decidable (Dat.int k ∈ due.map Dat.int)} (h : @decide _ inst = true) : k ∈ due := by
  have := of_decide_eq_true h
  simpa using this
theorem notin_due {k : Int} {due : List Int} {inst : Decidable (Dat.int k ∈ due.map Dat.int)} (h : @decide _ inst = false) : ¬ k ∈ due := by
  have := of_decide_eq_false h
  simpa using this
theorem off1_mem {D : Addr} : ∀ {l : Led}, LCg.Off1 D l → ∀ p ∈ l, p.1 ≠ D
  | [], _, _, h => nomatch h
  | _ :: _, x, p, h => by
    rcases List.mem_cons.mp h with rfl | h
    · exact x.1
    · exact off1_mem x.2 p h
theorem foldl_filter (q : Int → Bool) (G : List Int → Int → List Int) (hG : ∀ l k, G l k = if q k = true then l ++ [k] else l) (ns : List Int) : ns.foldl G [] = ns.filter q := by
  have all : ∀ (ns l : List Int), ns.foldl G l = l ++ ns.filter q := by
    intro ns
    induction ns with
    | nil => intro l; simp
    | cons x r ih =>
      intro l
      rw [List.foldl_cons, ih, hG, List.filter_cons]
      cases q x <;> simp
  simpa using all ns []
local macro_rules | `(tactic| walk_at "CompSrcT") => `(tactic| (k_here; refine stop_of ?_))
local macro_rules | `(tactic| walk_at "eval ListComp") => `(tactic| (k_here; lct_look; lcg_calm; k_dflt (refine LCt.ListComp_T (F₀ := by k_asm) (by with_unfolding_all rfl) (by decide) (by rfl) (by decide) (by rfl) ?_); k_dflt lct_toSrc))
theorem filled_ok {w : World} {mean : ExcName → Option Value} {mg mb : Str → Option Value} {dp un : Nat} {gd : Option (List Code)} {cn : Str} {cs : Scope} {a : Addr} {ccd : Value} {cl : List (Str × Addr)} {outer : List Env} {A₀ : Around} {base h₀ : Heap} {L : Addr} {m : Str → Option Value} {s : Shared} {Q E : Value → Shared → Prop}
    {x dx r aL aP : Addr} {t1 t2 u1 u2 : Tok} {vm : Value} {rv lv : List Value} {k kl nP : Nat} {ns : List Int} {b e : Int} {rest : Led}
    (B : Below A₀ base outer h₀) (F : Fr h₀ L s.heap m) (X : (hd.heap_39 w.params).In h₀) (N : News h₀ L s.heap ((dx, holesD w t1 t2 vm (.ref r)) :: rest)) (T : Top hd.view_39 (looseW hd.view_39 []) mean mg mb h₀) (hk : cs.kind = .function)
    (off : OwnOff rest [dx]) (hx : (x, instObj 59 dx) ∈ rest) (hr : (r, listOf rv.toArray k) ∈ rest) (hL : (aL, listOf lv.toArray kl) ∈ rest) (hP : (aP, { cls := .type "tuple", data := .seq #[.int b u1, .int e u2] nP }) ∈ rest) (hD : DatAll rest rv ((runs ns).map pd)) (hi : IntsAre lv ns) (hns : ns.length < 1000) (hp1 : cutF b e (runs ns) = runs (ns.filter fun k => decide (b ≤ k ∧ k < e)))
    (hdp : dp + 2 < recursionLimit) (hun : un + 308 < cLine)
    (ret : ∀ nl ys' nn r' rv' nr add h' tk', (∀ q ∈ (dx, holesD w t1 t2 vm (.ref r)) :: rest, ∀ p ∈ add, q.1 ≠ p.1) → (nl, listOf ys'.toArray nn) ∈ add → IntsAre ys' (ns.filter fun k => !decide (b ≤ k ∧ k < e)) → (r', listOf rv'.toArray nr) ∈ add → DatAll add rv' ((cutR b e (runs ns)).map pd) → Fr h₀ L h' m → News h₀ L h' ((dx, holesD w t1 t2 vm (.ref r')) :: (add ++ rest)) → Q (.ref nl) {s with heap := h', toks := tk'}) :
    wpAny (model Challenge.rw_on0332_01.row.prog w) (ktrTop dp un gd cn cs L a ccd cl outer) (call (.ref 110) [.ref x, .ref aL, .ref aP]) Q E s := by
  revert X; k_fill; intro X; w_top off
  refine wpAny_call ?_
  k_dflt (refine' code_defC ?k1 ?k2 ?k3 ?k4 ?k5 ?kA ?kF ?kK ?k6 ?k7 ?k8 ?k9 ?kB ?kD ?_ ?c2 ?c3 ?c4; (case kA => exact rfl); (case kF => exact rfl); (case kK => assumption); (case k1 => k_asm); (case k2 => k_asm); (case k3 => k_asm); (case k4 => k_asm); (case k5 => k_asm); (case k6 => k_is); (case k7 => k_is); (case k8 => ktr_room); (case k9 => exact BindsTo.of_eq rfl); (case kB => exact rfl); (case kD => decide +kernel); (case c2 => exact rfl); (case c3 => exact rfl); (case c4 => exact rfl); k_whole)
  intro g1 L1 h1 tk1 cells FG F1 N1 Y B1 X1 T1 lt
  k_lt lt
  k_cells Y
  simp only [List.cons_append, List.nil_append] at N1
  (try dsimp only)
  (try k_lift B1)
  (try k_fold)
  have hdxL := ltN lt.1
  have hoffL : ∀ p ∈ rest, @LT.lt Nat _ p.1 L1 := allLt_at lt.2
  have hOffC : OwnOff rest [dx, L1 + 1, L1 + 1 + 1] := by
    intro p hp c hc
    simp only [List.mem_cons, List.not_mem_nil, or_false] at hc
    have h3 := hoffL p hp
    rcases hc with rfl | rfl | rfl
    · exact off p hp _ (.head _)
    · refine neN ?_; omega
    · refine neN ?_; omega
  k_steps
  unfold Stop
  refine LCt.CompSrcT.ledger rfl (by k_asm) (by k_asm) (by k_mem) (by rw [List.size_toArray, hi.length, PySem.sizeLine_eq]; omega) ?_
  intro g'
  refine kci_list (fun l k => if b ≤ k ∧ k < e then l ++ [k] else l) hi ?turn ?fin ?grow
  case grow => intro l k; dsimp only; split <;> simp
  case turn =>
    intro k t I oI C oC D m₂ ys l h tk E' hkn hy hC hx F' N' off' ne' hmk
    k_steps
    · refine' LCg.CompEnd.intro ?eF ?eN _ (fun _ h => h) off' ?eS (kci_el ?eV rfl rfl)
      case eF => k_asm
      case eN => k_asm
      case eS => exact .inr ⟨_, by k_mem, rfl, _, rfl⟩
      case eV => exact if_pos ⟨by assumption, by assumption⟩
    · refine' LCg.CompEnd.intro ?eF ?eN _ (fun _ h => h) off' ?eS (kci_no ?eV rfl)
      case eF => k_asm
      case eN => k_asm
      case eS => exact .inr ⟨_, by k_mem, rfl, _, rfl⟩
      case eV => exact if_neg fun h => by omega
    · refine' LCg.CompEnd.intro ?eF ?eN _ (fun _ h => h) off' ?eS (kci_no ?eV rfl)
      case eF => k_asm
      case eN => k_asm
      case eS => exact .inr ⟨_, by k_mem, rfl, _, rfl⟩
      case eV => exact if_neg fun h => by omega
  case fin =>
    unfold KPfDone
    intro ys hys hys9
    rw [foldl_filter (fun k => decide (b ≤ k ∧ k < e)) _ (fun l k => by simp only [decide_eq_true_eq])] at hys
    generalize hdue : ns.filter (fun k => decide (b ≤ k ∧ k < e)) = due at hys
    have hduel : due.length < 1000 := by rw [← hdue]; exact Nat.lt_of_le_of_lt (List.length_filter_le ..) hns
    have hdueD : DatAll [] ys (due.map Dat.int) := ints_dat hys
    unfold LCg.FinE
    intro D h4 tk4 F4 N4 o4
    simp only [LCg.Off1] at o4
    have N5 : News g1 L1 h4 ((D, listOf ys.toArray ys.length) :: (L1 + 1 + 1, _) :: (L1 + 1, _) :: (dx, holesD w t1 t2 vm (.ref r)) :: rest) := N4
    clear N4
    obtain ⟨o41, o42, o43, o44⟩ := o4
    k_steps
    (try dsimp only)
    refine' fill_use (ps := runs ns) (n₁ := rest) (x := x) (dx := dx) (r := r) (rv := rv) ?a1 ?a2 ?a3 ?a4 ?a5 ?a6 ?a7 ?a8 ?a9 ?a10 ?a11 ?a12 ?a13 ?a14 ?a15 ?a16 ?a17 ?_
    case a1 => k_asm
    case a2 => k_asm
    case a3 => k_asm
    case a4 => k_asm
    case a5 => k_asm
    case a6 => exact rfl
    case a7 => k_updF
    case a8 => k_mem
    case a9 => exact off _ hx _ (.head _)
    case a10 => k_mem
    case a11 => exact off _ hr _ (.head _)
    case a12 => exact hD
    case a13 => kqd_sub
    case a14 => exact fun p hp => off p hp _ (.head _)
    case a15 => exact Nat.lt_of_le_of_lt (runs_len ns) hns
    case a16 => ktr_room
    case a17 => ktr_units
    intro f fv nf r' rv' nr add5 h5 tk5 hlt5 hf5 hr5 hF5 hR5 F5 N6
    rw [hp1, hdue] at hF5
    (try dsimp only at N6)
    (try k_fold)
    k_steps
    refine' runs_ok (ns := due) ?b1 ?b2 ?b3 ?b4 ?b5 ?b6 ?b7 ?b8 ?b9 ?b10 ?b11 ?_
    case b1 => k_asm
    case b2 => k_asm
    case b3 => k_asm
    case b4 => k_asm
    case b5 => k_asm
    case b6 => exact rfl
    case b7 => k_mem
    case b8 => assumption
    case b9 => exact hduel
    case b10 => ktr_room
    case b11 => ktr_units
    intro f7 fv7 nf7 add7 h7 tk7 hlt7 hf7 hD7 F7 N7
    (try k_fold)
    k_steps
    unfold Stop
    refine LCt.CompSrcT.ledger rfl (by k_asm) (by k_asm) (by k_mem) (by rw [List.size_toArray, hi.length, PySem.sizeLine_eq]; omega) ?_
    intro g2
    refine kci_list (fun l k => if k ∈ due then l else l ++ [k]) hi ?turn2 ?fin2 ?grow2
    case grow2 => intro l k; dsimp only; split <;> simp
    case turn2 =>
      intro k t I oI C oC D2 m₂ ys2 l h tk E' hkn hy hC hx F' N' off' ne' hmk
      k_steps
      · refine' LCg.CompEnd.intro ?eF ?eN _ (fun _ h => h) off' ?eS (kci_no ?eV rfl)
        case eF => k_asm
        case eN => k_asm
        case eS => exact .inr ⟨_, by k_mem, rfl, _, rfl⟩
        case eV => exact if_pos (in_due (by assumption))
      · refine' LCg.CompEnd.intro ?eF ?eN _ (fun _ h => h) off' ?eS (kci_el ?eV rfl rfl)
        case eF => k_asm
        case eN => k_asm
        case eS => exact .inr ⟨_, by k_mem, rfl, _, rfl⟩
        case eV => exact if_neg (notin_due (by assumption))
    case fin2 =>
      unfold KPfDone
      intro ys2 hys2 hys29
      rw [foldl_filter (fun k => decide (k ∉ due)) _ (fun l k => by by_cases hk : k ∈ due <;> simp [hk])] at hys2
      unfold LCg.FinE
      intro D2 h8 tk8 F8 N8 o8
      have o8m := off1_mem o8
      k_steps
      (rename News h₀ _ _ _ => N9)
      refine' ret D2 ys2 _ r' rv' nr ((D2, listOf ys2.toArray ys2.length) :: add5) _ _ ?r1 ?r2 ?r3 ?r4 ?r5 ?r6 ?r7
      case r6 => assumption
      case r7 =>
        refine fun p hp => N9 p ?_
        simp only [List.cons_append, List.mem_cons] at hp
        rcases hp with rfl | rfl | hp
        · k_mem
        · exact .head _
        · rcases List.mem_append.mp hp with hp | hp
          · k_mem
          · k_mem
      case r1 =>
        intro q hq p hp
        rcases List.mem_cons.mp hp with rfl | hp
        · rcases List.mem_cons.mp hq with rfl | hq
          · exact o8m (dx, holesD w t1 t2 vm (.ref r')) (by k_mem)
          · exact o8m q (by k_mem)
        · exact Nat.ne_of_lt (hlt5 q (by rcases List.mem_cons.mp hq with rfl | hq <;> k_mem) p hp)
      case r2 => exact .head _
      case r4 => exact .tail _ hr5
      case r5 => exact hR5.mono fun _ h => .tail _ h
      case r3 =>
        rw [← hdue] at hys2
        rw [filt_notin] at hys2
        exact hys2
end Mine

namespace Mine
local macro_rules | `(tactic| k_all) => `(tactic| first | assumption | exact OwnOff.ne (by assumption) (by k_memK))
local macro_rules | `(tactic| k_mem) => `(tactic| first | exact List.Mem.head _ | assumption | (refine List.mem_append.mpr (Or.inl ?_); assumption) | (refine List.mem_append.mpr (Or.inr ?_); k_mem) | (refine' List.Mem.tail _ ?_; k_mem))
local macro_rules | `(tactic| kqd_sub) => `(tactic| (intro p9 h9; k_mem))
theorem end_ok {w : World} {mean : ExcName → Option Value} {mg mb : Str → Option Value} {dp un : Nat} {gd : Option (List Code)} {cn : Str} {cs : Scope} {a : Addr} {ccd : Value} {cl : List (Str × Addr)} {outer : List Env} {A₀ : Around} {base h₀ : Heap} {L : Addr} {m : Str → Option Value} {s : Shared} {Q E : Value → Shared → Prop}
    {x dx r : Addr} {t1 t2 tm : Tok} {most : Int} {rv : List Value} {k : Nat} {ps : List (Int × Int)} {e : Int} {te : Tok} {rest : Led}
    (B : Below A₀ base outer h₀) (F : Fr h₀ L s.heap m) (X : (hd.heap_39 w.params).In h₀) (N : News h₀ L s.heap ((dx, holesD w t1 t2 (.int most tm) (.ref r)) :: rest)) (T : Top hd.view_39 (looseW hd.view_39 []) mean mg mb h₀) (hk : cs.kind = .function)
    (off : OwnOff rest [dx]) (hx : (x, instObj 59 dx) ∈ rest) (hr : (r, listOf rv.toArray k) ∈ rest) (hD : DatAll rest rv (ps.map pd)) (hps0 : ps.length < 1000)
    (hdp : dp + 2 < recursionLimit) (hun : un + 108 < cLine)
    (ret : ∀ r' rv' nr add h' tk', (∀ q ∈ (dx, holesD w t1 t2 (.int most tm) (.ref r)) :: rest, ∀ p ∈ add, q.1 ≠ p.1) → (r', listOf rv'.toArray nr) ∈ add → DatAll add rv' ((cutR e most ps).map pd) →
      Fr h₀ L h' m → News h₀ L h' ((dx, holesD w t1 t2 (.int most tm) (.ref r')) :: (add ++ rest)) → Q .none {s with heap := h', toks := tk'}) :
    wpAny (model Challenge.rw_on0332_01.row.prog w) (ktrTop dp un gd cn cs L a ccd cl outer) (call (.ref 42) [.ref x, .int e te]) Q E s := by
  revert X; k_fill; intro X; w_top off
  refine wpAny_call ?_
  k_dflt cell_enter
  k_steps
  (try dsimp only [List.cons_append, List.nil_append])
  refine' fill_use (ps := ps) (n₁ := rest) (x := x) (dx := dx) (r := r) (rv := rv) ?a1 ?a2 ?a3 ?a4 ?a5 ?a6 ?a7 ?a8 ?a9 ?a10 ?a11 ?a12 ?a13 ?a14 ?a15 ?a16 ?a17 ?_
  case a1 => k_asm
  case a2 => k_asm
  case a3 => k_asm
  case a4 => k_asm
  case a5 => k_asm
  case a6 => exact rfl
  case a7 => k_updF
  case a8 => k_mem
  case a9 => exact off _ hx _ (.head _)
  case a10 => k_mem
  case a11 => exact off _ hr _ (.head _)
  case a12 => exact hD
  case a13 => kqd_sub
  case a14 => exact fun p hp => off p hp _ (.head _)
  case a15 => exact hps0
  case a16 => ktr_room
  case a17 => ktr_units
  intro f fv nf r' rv' nr add5 h5 tk5 hlt5 hf5 hr5 hF5 hR5 F5 N6
  (try dsimp only at N6)
  (try k_fold)
  k_steps
  (rename News h₀ _ _ _ => N9)
  refine' ret r' rv' nr add5 _ _ ?r1 ?r2 ?r3 ?r4 ?r5
  case r4 => assumption
  case r5 => exact fun p hp => N9 p (by simp only [List.mem_cons, List.mem_append] at hp ⊢; rcases hp with hp | hp | hp; exact .inr (.inl hp); exact .inl hp; exact .inr (.inr hp))
  case r1 => exact fun q hq p hp => Nat.ne_of_lt (hlt5 q hq p hp)
  case r2 => exact hr5
  case r3 => exact hR5
end Mine

namespace Mine
theorem big_lo (c : Int) (d : Bool) : 0 ≤ (if -1 - c > c then -1 - c else c) * (if d = true then 1 else 0) := by
  cases d
  · simp
  · split <;> simp <;> omega
theorem pool_ok {w : World} {mean : ExcName → Option Value} {mg mb : Str → Option Value} {dp un : Nat} {gd : Option (List Code)} {cn : Str} {cs : Scope} {a : Addr} {ccd : Value} {cl : List (Str × Addr)} {outer : List Env} {A₀ : Around} {base h₀ : Heap} {L : Addr} {m : Str → Option Value} {s : Shared} {Q E : Value → Shared → Prop}
    {l : Addr} {vs : List Value} {ns : List Int} {t0 : Tok} {rest : Led}
    (B : Below A₀ base outer h₀) (F : Fr h₀ L s.heap m) (X : (hd.heap_39 w.params).In h₀) (N : News h₀ L s.heap rest) (T : Top hd.view_39 (looseW hd.view_39 []) mean mg mb h₀) (hk : cs.kind = .function)
    (hl : base.IsList l vs.toArray) (hi : IntsAre vs ns) (hns : ns.length < 1000)
    (hdp : dp + 1 < recursionLimit) (hun : un + 108 < cLine)
    (ret : ∀ p pv n x y h' tk', (∀ q ∈ rest, q.1 < p) → IntsAre pv [x, y] → 0 ≤ x → (0 ≤ y ∧ y < 2147483647) →
      Fr h₀ L h' m → News h₀ L h' ((p, listOf pv.toArray n) :: rest) → Q (.ref p) {s with heap := h', toks := tk'}) :
    wpAny (model Challenge.rw_on0332_01.row.prog w) (ktrTop dp un gd cn cs L a ccd cl outer) (call (.ref 70) [.ref l, .int 0 t0]) Q E s := by
  revert X; k_fill; intro X; w_top off
  refine wpAny_call ?_
  k_dflt cell_enter
  k_steps
  all_goals (
    refine' ret _ [_, _] 0 _ _ _ _ ?r1 ?r2 ?r3 ?r4 ?r5 ?r6
    case r6 => assumption
    case r5 => assumption
    case r1 => assumption
    case r2 => exact IntsAre.cons _ _ (IntsAre.cons _ _ IntsAre.nil)
    case r3 => exact big_lo _ _
    case r4 => exact ⟨fm_lo _ (by decide), fm_hi _ (by decide)⟩)
end Mine

namespace Mine
theorem sub_news {h₀ h : Heap} {L : Addr} {l l' : Led} (N : News h₀ L h l) (hs : ∀ p ∈ l', p ∈ l) : News h₀ L h l' := fun p hp => N p (hs p hp)
theorem all7 {l : Led} {a b c d e f g : Addr × Obj} (h1 : a ∈ l) (h2 : b ∈ l) (h3 : c ∈ l) (h4 : d ∈ l) (h5 : e ∈ l) (h6 : f ∈ l) (h7 : g ∈ l) : ∀ p ∈ [a, b, c, d, e, f, g], p ∈ l := by
  intro p hp
  simp only [List.mem_cons, List.not_mem_nil, or_false] at hp
  rcases hp with rfl | rfl | rfl | rfl | rfl | rfl | rfl <;> assumption
theorem pairs_ne {prog : Program} {w : World} {A : Around} {E : Value → Shared → Prop} {s : Shared} {h₀ : Heap} {L a b : Addr} {news n₁ : Led} {xs ys : List Value} {ka kb : Nat} {ps qs : List (Int × Int)} {Q : Value → Shared → Prop}
    (N : News h₀ L s.heap news) (ma : (a, listOf xs.toArray ka) ∈ news) (Da : DatAll n₁ xs (ps.map pd)) (sa : ∀ p ∈ n₁, p ∈ news) (mb : (b, listOf ys.toArray kb) ∈ news) (Db : DatAll news ys (qs.map pd))
    (hu : A.units + 64 < cLine) (heq : ps = qs) (h : Q (.bool false) s) : wpAny (model prog w) A (compareOp .NotEq (.ref a) (.ref b)) Q E s := by
  subst heq
  have ok : ∀ d ∈ ps.map pd, kqdOk 8 d = true := fun d hd => by
    obtain ⟨x, _, hx⟩ := List.mem_map.mp hd
    subst hx; rfl
  refine kqd_ne N ma rfl rfl Da sa mb rfl rfl Db (fun _ h => h) ok ok hu ?_
  simpa using h
theorem pd_drop {h₀ h : Heap} {L dx : Addr} {o : Obj} {news : Led} (N : News h₀ L h news) (ho : (dx, o) ∈ news) (hc : o.cls ≠ .type "tuple") : ∀ {ps : List (Int × Int)} {vs : List Value}, DatAll news vs (ps.map pd) → DatAll (news.filter fun p => decide (p.1 ≠ dx)) vs (ps.map pd)
  | [], _, hD => by cases hD; exact .nil
  | p :: r, vs, hD => by
    rw [List.map_cons] at hD ⊢
    cases hD with
    | cons h1 h2 =>
      refine DatAll.cons ?_ (pd_drop N ho hc h2)
      obtain ⟨a, u1, u2, n, rfl, hm⟩ := pd_in h1
      refine DatIn.tuple (vs := [.int p.1 u1, .int p.2 u2]) (n := n) (List.mem_filter.mpr ⟨hm, decide_eq_true fun e => ?_⟩) (.cons (.int _ _) (.cons (.int _ _) .nil))
      have h3 := (N _ hm).1
      have h4 := (N _ ho).1
      simp only at e h3 h4
      rw [e, h4] at h3
      have h5 := Option.some.inj h3
      rw [h5] at hc
      exact hc rfl
theorem fill_use2 {w : World} {mean : ExcName → Option Value} {mg mb : Str → Option Value} {dp un : Nat} {gd : Option (List Code)} {cn : Str} {cs : Scope} {a : Addr} {ccd : Value} {cl : List (Str × Addr)} {outer : List Env} {A₀ : Around} {base h₀ : Heap} {L : Addr} {m : Str → Option Value} {s : Shared} {Q E : Value → Shared → Prop}
    {x dx r : Addr} {t1 t2 : Tok} {vm : Value} {rv : List Value} {k : Nat} {ps : List (Int × Int)} {b e : Int} {tb te : Tok} {news : Led} {g : Obj → Led}
    (B : Below A₀ base outer h₀) (F : Fr h₀ L s.heap m) (X : (hd.heap_39 w.params).In h₀) (N : News h₀ L s.heap news) (T : Top hd.view_39 (looseW hd.view_39 []) mean mg mb h₀) (hk : cs.kind = .function)
    (hx : (x, instObj 59 dx) ∈ news) (U : UpdF dx (holesD w t1 t2 vm (.ref r)) news g) (hxd : @Ne Nat x dx) (hr : (r, listOf rv.toArray k) ∈ news) (hrd : @Ne Nat r dx) (hD : DatAll news rv (ps.map pd)) (hps0 : ps.length < 1000)
    (hdp : dp + 1 < recursionLimit) (hun : un + 8 < cLine)
    (ret : ∀ f fv nf r' rv' nr add h' tk', (∀ q ∈ news, ∀ p ∈ add, q.1 < p.1) → (f, listOf fv.toArray nf) ∈ add → (r', listOf rv'.toArray nr) ∈ add → DatAll add fv ((cutF b e ps).map pd) → DatAll add rv' ((cutR b e ps).map pd) →
      Fr h₀ L h' m → News h₀ L h' (add ++ g (holesD w t1 t2 vm (.ref r'))) → Q (.ref f) {s with heap := h', toks := tk'}) :
    wpAny (model Challenge.rw_on0332_01.row.prog w) (ktrTop dp un gd cn cs L a ccd cl outer) (call (.ref 35) [.ref x, .int b tb, .int e te]) Q E s := by
  have hdx : (dx, holesD w t1 t2 vm (.ref r)) ∈ news := by
    obtain ⟨pre, post, rfl, _⟩ := U.split
    exact List.mem_append.mpr (.inr (.head _))
  exact fill_use (n₁ := news.filter fun p => decide (p.1 ≠ dx)) B F X N T hk U hx hxd hr hrd (pd_drop N hdx (show Value.type "dict" ≠ Value.type "tuple" by decide) hD) (fun p hp => (List.mem_filter.mp hp).1) (fun p hp => of_decide_eq_true (List.mem_filter.mp hp).2) hps0 hdp hun ret
theorem runStep_nil (x : Int) : runStep [] x = [(x, x + 1)] := rfl
theorem runStep_join (R : List (Int × Int)) (lo x : Int) : runStep (R ++ [(lo, x)]) x = R ++ [(lo, x + 1)] := by simp [runStep]
theorem runStep_new {R : List (Int × Int)} {x : Int} (h : ∀ p ∈ R, p.2 ≠ x) : runStep R x = R ++ [(x, x + 1)] := by
  rcases list_ends R with rfl | ⟨init, p, rfl⟩
  · rfl
  · have h1 := h p (by simp)
    simp [runStep, h1]
theorem cutR_snoc (b e : Int) (R : List (Int × Int)) (p : Int × Int) : cutR b e (R ++ [p]) = cutR b e R ++ cutR1 b e p := by simp [cutR, List.flatMap_append]
theorem cutF_snoc (b e : Int) (R : List (Int × Int)) (p : Int × Int) : cutF b e (R ++ [p]) = cutF b e R ++ cutF1 b e p := by simp [cutF, List.flatMap_append]
theorem cutR1_end {b e : Int} {p q : Int × Int} (hp : p.1 < p.2) (h : q ∈ cutR1 b e p) : q.2 ≤ p.2 := by
  unfold cutR1 at h
  split at h
  · simp only [List.mem_cons, List.not_mem_nil, or_false] at h
    subst h; exact Int.le_refl _
  · rename_i hn
    rcases List.mem_append.mp h with h | h
    · split at h
      · simp only [List.mem_cons, List.not_mem_nil, or_false] at h
        subst h; simp only; unfold mn mx at hn; unfold mx; (repeat' split at hn) <;> (repeat' split) <;> omega
      · exact nomatch h
    · split at h
      · simp only [List.mem_cons, List.not_mem_nil, or_false] at h
        subst h; exact Int.le_refl _
      · exact nomatch h
theorem cutF1_end {b e : Int} {p q : Int × Int} (h : q ∈ cutF1 b e p) : q.2 ≤ p.2 := by
  unfold cutF1 at h
  split at h
  · exact nomatch h
  · simp only [List.mem_cons, List.not_mem_nil, or_false] at h
    subst h; simp only; unfold mn; split <;> omega
theorem cutR_end {b e z : Int} {R : List (Int × Int)} (hp : ∀ p ∈ R, p.1 < p.2) (hz : ∀ p ∈ R, p.2 < z) : ∀ q ∈ cutR b e R, q.2 ≠ z := by
  intro q hq
  obtain ⟨p, hpR, hqp⟩ := List.mem_flatMap.mp hq
  have h1 := cutR1_end (hp p hpR) hqp
  have h2 := hz p hpR
  omega
theorem cutF_end {b e z : Int} {R : List (Int × Int)} (hz : ∀ p ∈ R, p.2 < z) : ∀ q ∈ cutF b e R, q.2 ≠ z := by
  intro q hq
  obtain ⟨p, hpR, hqp⟩ := List.mem_flatMap.mp hq
  have h1 := cutF1_end hqp
  have h2 := hz p hpR
  omega
structure Good (R : List (Int × Int)) (z : Int) : Prop where
  wide : ∀ p ∈ R, p.1 < p.2
  ends : ∀ p ∈ R, p.2 ≤ z
  apart : ∀ init p, R = init ++ [p] → ∀ q ∈ init, q.2 < p.1
theorem good_nil (z : Int) : Good [] z := { wide := fun _ h => (nomatch h), ends := fun _ h => (nomatch h), apart := fun init p h => by cases init <;> cases h }
theorem good_up {R : List (Int × Int)} {z y : Int} (h : Good R z) (hy : z ≤ y) : Good R y := ⟨h.wide, fun p hp => Int.le_trans (h.ends p hp) hy, h.apart⟩
theorem good_step {R : List (Int × Int)} {x : Int} (h : Good R x) : Good (runStep R x) (x + 1) := by
  rcases list_ends R with rfl | ⟨init, ⟨lo, hi⟩, rfl⟩
  · rw [runStep_nil]
    refine ⟨fun p hp => ?_, fun p hp => ?_, fun init p e => ?_⟩
    · simp at hp; subst hp; simp only; omega
    · simp at hp; subst hp; simp
    · have e2 : ([] : List (Int × Int)) ++ [(x, x + 1)] = init ++ [p] := e
      obtain ⟨rfl, _⟩ := List.append_inj' e2 rfl
      intro q hq; exact nomatch hq
  · have hlo := h.wide (lo, hi) (by simp)
    have hhi := h.ends (lo, hi) (by simp)
    have hap := h.apart init (lo, hi) rfl
    simp only at hlo hhi hap
    by_cases hx : hi = x
    · subst hx
      rw [runStep_join]
      refine ⟨fun p hp => ?_, fun p hp => ?_, fun i2 p e => ?_⟩
      · rcases List.mem_append.mp hp with hp | hp
        · exact h.wide p (List.mem_append.mpr (.inl hp))
        · simp at hp; subst hp; simp; omega
      · rcases List.mem_append.mp hp with hp | hp
        · have := h.ends p (List.mem_append.mpr (.inl hp)); omega
        · simp at hp; subst hp; simp
      · have e2 := List.append_inj' e rfl
        obtain ⟨rfl, e3⟩ := e2
        simp at e3
        subst e3
        exact hap
    · have hne : ∀ p ∈ init ++ [(lo, hi)], p.2 ≠ x := by
        intro p hp
        rcases List.mem_append.mp hp with hp | hp
        · have h1 := hap p hp
          omega
        · simp at hp; subst hp; exact hx
      rw [runStep_new hne]
      refine ⟨fun p hp => ?_, fun p hp => ?_, fun i2 p e => ?_⟩
      · rcases List.mem_append.mp hp with hp | hp
        · exact h.wide p hp
        · simp at hp; subst hp; simp; omega
      · rcases List.mem_append.mp hp with hp | hp
        · have := h.ends p hp; omega
        · simp at hp; subst hp; simp
      · have e2 := List.append_inj' e rfl
        obtain ⟨rfl, e3⟩ := e2
        simp at e3
        subst e3
        intro q hq
        have h1 := h.ends q hq
        have h2 := hne q hq
        simp only
        omega
theorem cutR1_in {b e lo x : Int} (hl : lo < x) (h : b ≤ x ∧ x < e) : cutR1 b e (lo, x + 1) = cutR1 b e (lo, x) := by
  (simp only [cutR1, cutF1, mn, mx]; (repeat' split) <;> first | rfl | (exfalso; omega) | (simp; done) | (simp; omega))
theorem cutR1_out {b e lo x : Int} (hl : lo < x) (h : ¬ (b ≤ x ∧ x < e)) :
    (∃ S u, cutR1 b e (lo, x) = S ++ [(u, x)] ∧ cutR1 b e (lo, x + 1) = S ++ [(u, x + 1)]) ∨ ((∀ p ∈ cutR1 b e (lo, x), p.2 < x) ∧ cutR1 b e (lo, x + 1) = cutR1 b e (lo, x) ++ [(x, x + 1)]) := by
  by_cases h1 : x < b
  · refine .inl ⟨[], lo, ?_, ?_⟩
    · (simp only [cutR1, cutF1, mn, mx]; (repeat' split) <;> first | rfl | (exfalso; omega) | (simp; done) | (simp; omega))
    · (simp only [cutR1, cutF1, mn, mx]; (repeat' split) <;> first | rfl | (exfalso; omega) | (simp; done) | (simp; omega))
  · have hxe : e ≤ x := by omega
    by_cases h2 : e ≤ mx lo b
    · refine .inl ⟨[], lo, ?_, ?_⟩
      · unfold mx at h2; (simp only [cutR1, cutF1, mn, mx]; (repeat' split) <;> first | rfl | (exfalso; omega) | (simp; done) | (simp; omega))
      · unfold mx at h2; (simp only [cutR1, cutF1, mn, mx]; (repeat' split) <;> first | rfl | (exfalso; omega) | (simp; done) | (simp; omega))
    · unfold mx at h2
      by_cases h3 : lo < b
      · by_cases h4 : e < x
        · refine .inl ⟨[(lo, b)], e, ?_, ?_⟩
          · (simp only [cutR1, cutF1, mn, mx]; (repeat' split) <;> first | rfl | (exfalso; omega) | (simp; done) | (simp; omega))
          · (simp only [cutR1, cutF1, mn, mx]; (repeat' split) <;> first | rfl | (exfalso; omega) | (simp; done) | (simp; omega))
        · have h5 : e = x := by omega
          subst h5
          have e1 : cutR1 b e (lo, e) = [(lo, b)] := by (simp only [cutR1, cutF1, mn, mx]; (repeat' split) <;> first | rfl | (exfalso; omega) | (simp; done) | (simp; omega))
          refine .inr ⟨?_, ?_⟩
          · rw [e1]; intro p hp; simp at hp; subst hp; simp only; split at h2 <;> omega
          · rw [e1]; (simp only [cutR1, cutF1, mn, mx]; (repeat' split) <;> first | rfl | (exfalso; omega) | (simp; done) | (simp; omega))
      · by_cases h4 : e < x
        · refine .inl ⟨[], e, ?_, ?_⟩
          · (simp only [cutR1, cutF1, mn, mx]; (repeat' split) <;> first | rfl | (exfalso; omega) | (simp; done) | (simp; omega))
          · (simp only [cutR1, cutF1, mn, mx]; (repeat' split) <;> first | rfl | (exfalso; omega) | (simp; done) | (simp; omega))
        · have h5 : e = x := by omega
          subst h5
          have e1 : cutR1 b e (lo, e) = [] := by (simp only [cutR1, cutF1, mn, mx]; (repeat' split) <;> first | rfl | (exfalso; omega) | (simp; done) | (simp; omega))
          refine .inr ⟨?_, ?_⟩
          · rw [e1]; intro p hp; exact nomatch hp
          · rw [e1]; (simp only [cutR1, cutF1, mn, mx]; (repeat' split) <;> first | rfl | (exfalso; omega) | (simp; done) | (simp; omega))
theorem cutF1_in {b e lo x : Int} (hl : lo < x) (h : b ≤ x ∧ x < e) :
    (∃ u, cutF1 b e (lo, x) = [(u, x)] ∧ cutF1 b e (lo, x + 1) = [(u, x + 1)]) ∨ (cutF1 b e (lo, x) = [] ∧ cutF1 b e (lo, x + 1) = [(x, x + 1)]) := by
  by_cases h1 : b = x
  · subst h1
    refine .inr ⟨?_, ?_⟩
    · (simp only [cutR1, cutF1, mn, mx]; (repeat' split) <;> first | rfl | (exfalso; omega) | (simp; done) | (simp; omega))
    · (simp only [cutR1, cutF1, mn, mx]; (repeat' split) <;> first | rfl | (exfalso; omega) | (simp; done) | (simp; omega))
  · refine .inl ⟨mx lo b, ?_, ?_⟩
    · (simp only [cutR1, cutF1, mn, mx]; (repeat' split) <;> first | rfl | (exfalso; omega) | (simp; done) | (simp; omega))
    · (simp only [cutR1, cutF1, mn, mx]; (repeat' split) <;> first | rfl | (exfalso; omega) | (simp; done) | (simp; omega))
theorem cutF1_out {b e lo x : Int} (hl : lo < x) (h : ¬ (b ≤ x ∧ x < e)) : cutF1 b e (lo, x + 1) = cutF1 b e (lo, x) := by
  (simp only [cutR1, cutF1, mn, mx]; (repeat' split) <;> first | rfl | (exfalso; omega) | (simp; done) | (simp; omega))
theorem cutR_step {R : List (Int × Int)} {x : Int} (b e : Int) (h : Good R x) :
    cutR b e (runStep R x) = if b ≤ x ∧ x < e then cutR b e R else runStep (cutR b e R) x := by
  have one : cutR1 b e (x, x + 1) = if b ≤ x ∧ x < e then [] else [(x, x + 1)] := by
    (simp only [cutR1, cutF1, mn, mx]; (repeat' split) <;> first | rfl | (exfalso; omega) | (simp; done) | (simp; omega))
  rcases list_ends R with rfl | ⟨init, ⟨lo, hi⟩, rfl⟩
  · rw [runStep_nil]
    show cutR1 b e (x, x + 1) ++ [] = _
    rw [one]
    split <;> simp [cutR, runStep_nil]
  · have hlo := h.wide (lo, hi) (by simp)
    have hhi := h.ends (lo, hi) (by simp)
    have hap := h.apart init (lo, hi) rfl
    have hwi : ∀ p ∈ init, p.1 < p.2 := fun p hp => h.wide p (List.mem_append.mpr (.inl hp))
    simp only at hlo hhi hap
    by_cases hx : hi = x
    · subst hx
      rw [runStep_join, cutR_snoc, cutR_snoc]
      split
      · rename_i hq; rw [cutR1_in hlo hq]
      · rename_i hq
        rcases cutR1_out hlo hq with ⟨S, u, e1, e2⟩ | ⟨e1, e2⟩
        · rw [e1, e2, ← List.append_assoc, ← List.append_assoc, runStep_join]
        · rw [e2, ← List.append_assoc, runStep_new]
          intro p hp
          rcases List.mem_append.mp hp with hp | hp
          · exact cutR_end hwi (fun q hq => by have := hap q hq; omega) p hp
          · have := e1 p hp; omega
    · have hz : ∀ p ∈ init ++ [(lo, hi)], p.2 < x := by
        intro p hp
        rcases List.mem_append.mp hp with hp | hp
        · have h1 := hap p hp; omega
        · simp at hp; subst hp; simp only; omega
      rw [runStep_new (fun p hp => by have := hz p hp; omega), cutR_snoc, one]
      split
      · simp
      · rw [runStep_new (cutR_end h.wide hz)]
theorem cutF_step {R : List (Int × Int)} {x : Int} (b e : Int) (h : Good R x) :
    cutF b e (runStep R x) = if b ≤ x ∧ x < e then runStep (cutF b e R) x else cutF b e R := by
  have one : cutF1 b e (x, x + 1) = if b ≤ x ∧ x < e then [(x, x + 1)] else [] := by
    (simp only [cutR1, cutF1, mn, mx]; (repeat' split) <;> first | rfl | (exfalso; omega) | (simp; done) | (simp; omega))
  rcases list_ends R with rfl | ⟨init, ⟨lo, hi⟩, rfl⟩
  · rw [runStep_nil]
    show cutF1 b e (x, x + 1) ++ [] = _
    rw [one]
    split <;> simp [cutF, runStep_nil]
  · have hlo := h.wide (lo, hi) (by simp)
    have hhi := h.ends (lo, hi) (by simp)
    have hap := h.apart init (lo, hi) rfl
    simp only at hlo hhi hap
    by_cases hx : hi = x
    · subst hx
      rw [runStep_join, cutF_snoc, cutF_snoc]
      split
      · rename_i hq
        rcases cutF1_in hlo hq with ⟨u, e1, e2⟩ | ⟨e1, e2⟩
        · rw [e1, e2, runStep_join]
        · rw [e1, e2, List.append_nil, runStep_new (cutF_end fun q hq => by have := hap q hq; omega)]
      · rename_i hq; rw [cutF1_out hlo hq]
    · have hz : ∀ p ∈ init ++ [(lo, hi)], p.2 < x := by
        intro p hp
        rcases List.mem_append.mp hp with hp | hp
        · have h1 := hap p hp; omega
        · simp at hp; subst hp; simp only; omega
      rw [runStep_new (fun p hp => by have := hz p hp; omega), cutF_snoc, one]
      split
      · rw [runStep_new (cutF_end hz)]
      · simp
theorem cut_all (b e : Int) : ∀ (ns : List Int) (R : List (Int × Int)) (z : Int), Good R z → (∀ x ∈ ns, z ≤ x) → ns.Pairwise (· < ·) →
    cutR b e (ns.foldl runStep R) = (ns.filter fun k => !decide (b ≤ k ∧ k < e)).foldl runStep (cutR b e R) ∧ cutF b e (ns.foldl runStep R) = (ns.filter fun k => decide (b ≤ k ∧ k < e)).foldl runStep (cutF b e R)
  | [], _, _, _, _, _ => ⟨rfl, rfl⟩
  | x :: r, R, z, h, hz, hp => by
    have hx := hz x (.head _)
    have g := good_up h hx
    obtain ⟨p1, p2⟩ := List.pairwise_cons.mp hp
    have ih := cut_all b e r (runStep R x) (x + 1) (good_step g) (fun y hy => by have := p1 y hy; omega) p2
    rw [cutR_step b e g, cutF_step b e g] at ih
    rw [List.foldl_cons, ih.1, ih.2]
    by_cases hq : b ≤ x ∧ x < e
    · rw [if_pos hq, if_pos hq, List.filter_cons_of_neg (by simp [hq]), List.filter_cons_of_pos (by simp [hq])]
      exact ⟨rfl, rfl⟩
    · have hd : decide (b ≤ x ∧ x < e) = false := decide_eq_false hq
      rw [if_neg hq, if_neg hq, List.filter_cons_of_pos (by rw [hd]; rfl), List.filter_cons_of_neg (by rw [hd]; decide)]
      exact ⟨rfl, rfl⟩
theorem cutR_runs (b e : Int) {ns : List Int} (hp : ns.Pairwise (· < ·)) : cutR b e (runs ns) = runs (ns.filter fun k => !decide (b ≤ k ∧ k < e)) := by
  cases ns with
  | nil => rfl
  | cons x r => exact (cut_all b e (x :: r) [] x (good_nil x) (fun y hy => by rcases List.mem_cons.mp hy with rfl | hy; exact Int.le_refl _; exact Int.le_of_lt ((List.pairwise_cons.mp hp).1 y hy)) hp).1
theorem cutF_runs (b e : Int) {ns : List Int} (hp : ns.Pairwise (· < ·)) : cutF b e (runs ns) = runs (ns.filter fun k => decide (b ≤ k ∧ k < e)) := by
  cases ns with
  | nil => rfl
  | cons x r => exact (cut_all b e (x :: r) [] x (good_nil x) (fun y hy => by rcases List.mem_cons.mp hy with rfl | hy; exact Int.le_refl _; exact Int.le_of_lt ((List.pairwise_cons.mp hp).1 y hy)) hp).2
theorem runs_range (n : Nat) (hn : 0 < n) : runs (rangeKs 0 n) = [(0, (n : Int))] := by
  induction n with
  | zero => exact absurd hn (Nat.lt_irrefl _)
  | succ n ih =>
    have e : rangeKs 0 (n + 1) = rangeKs 0 n ++ [(n : Int)] := by simp [rangeKs, List.range_succ]
    rw [e, runs, List.foldl_append]
    by_cases h : n = 0
    · subst h; rfl
    · have ih' := ih (Nat.pos_of_ne_zero h)
      rw [runs] at ih'
      rw [ih']
      have := runStep_join [] 0 (n : Int)
      simpa using this
theorem range_pair (a : Int) (n : Nat) : (rangeKs a n).Pairwise (· < ·) := by
  unfold rangeKs
  refine List.pairwise_map.mpr ?_
  refine List.Pairwise.imp (fun h => ?_) List.pairwise_lt_range
  omega
section
variable {prog : Program} {w : World} {A : Around} {E : Value → Shared → Prop} {s : Shared} {env : Env} {h₀ : Heap} {x : Str} {body : List Stmt} {Q : Flow → Shared → Prop}
theorem range_loop {r : Addr} {a₀ b₀ : Int} {t₀ u₀ v₀ : Tok} {n : Nat} {m₀ : Str → Option Value} {news : Led} (J : Nat → (Str → Option Value) → Led → Prop)
    (hh : A.handled = none) (hr : IsRange s.heap r a₀ b₀ 1 t₀ u₀ v₀) (hsmall : Builtin.Range.small a₀ b₀ 1 = true) (hsz : Builtin.Range.rangeSize a₀ b₀ 1 = (n : Int)) (F : Fr h₀ env.locals s.heap m₀) (N : News h₀ env.locals s.heap news) (hj : J 0 m₀ news)
    (turn : ∀ i (k : Int) t m₁ nx h tk own, i < n → OwnOff own (nx.map (·.1)) → J i m₁ nx → Fr h₀ env.locals h (fun y => if y = x then some (.int k t) else m₁ y) → News h₀ env.locals h (nx ++ own) →
      wpAny (model prog w) A (execs body env) (InvPostG h₀ env.locals (J (i + 1)) own { s with heap := h, toks := tk } Q) E { s with heap := h, toks := tk })
    (done : ∀ m₁ nx h tk, J n m₁ nx → Fr h₀ env.locals h m₁ → News h₀ env.locals h nx → Q .next { s with heap := h, toks := tk }) :
    wpAny (model prog w) A (pyIter (.ref r)) (fun it s₂ => LoopAtV prog w A h₀ env x body Q E it s₂) E s := by
  refine wpAny_pyIter_range hr hsmall ?_
  have W : Walks prog w A s.heap.objs.size [s.heap.objs.size] [s.heap.objs.size] n (fun i v => i < n ∧ ∃ t, v = .int (a₀ + i * 1) t)
      (fun i h => IsRangeIter h s.heap.objs.size (a₀ + (i : Nat) * 1) ((n : Int) - (i : Nat)) 1) := (Walks.range hh _ a₀ 1 n).bound
  refine kdr_loop J W (fun _ h => h) (fun _ h => h) ?_ ?_ ?_ ?_ (by show IsRangeIter _ _ _ _ _; rw [hsz]; simpa using Heap.get?_push_size _ rfl) (F.push _) (fun p hp => ⟨Heap.get?_push_of_some _ (N p hp).1, (N p hp).2⟩) hj ?_ ?_
  · intro i h hi b hb
    rw [List.mem_singleton.mp hb]
    exact ⟨_, hi⟩
  · intro hm
    exact absurd F.ns.lt ((List.mem_singleton.mp hm) ▸ Nat.lt_irrefl _)
  · intro b hb
    rw [List.mem_singleton.mp hb]
    exact next_is_new F
  · intro p hp hI
    exact absurd (Heap.lt_size (N p hp).1) ((List.mem_singleton.mp hI) ▸ Nat.lt_irrefl _)
  · rintro i v m₁ nx h tk own hi ⟨_, t, rfl⟩ hoff hj F₁ N₁
    exact turn i _ t m₁ nx h tk own hi hoff hj F₁ N₁
  · intro m₁ nx h tk hj F₁ N₁
    exact done m₁ nx h tk hj F₁ N₁
end

theorem stretch_any {w : World} {mean : ExcName → Option Value} {mg mb : Str → Option Value} {dp un : Nat} {gd : Option (List Code)} {cn : Str} {cs : Scope} {a : Addr} {ccd : Value} {cl : List (Str × Addr)} {outer : List Env} {A₀ : Around} {base h₀ : Heap} {L : Addr} {m : Str → Option Value} {s : Shared} {Q E : Value → Shared → Prop}
    {aS : Addr} {vs : List Value} {x y most : Int} {tm : Tok} {n : Nat} {rest : Led}
    (B : Below A₀ base outer h₀) (F : Fr h₀ L s.heap m) (X : (hd.heap_39 w.params).In h₀) (N : News h₀ L s.heap ((aS, listOf vs.toArray n) :: rest)) (T : Top hd.view_39 (looseW hd.view_39 []) mean mg mb h₀) (hk : cs.kind = .function)
    {lv : Value} (hlv : lv = .none ∨ IsStretch rest lv) (off : OwnOff rest [aS]) (hm : 0 < most ∧ most < 1000) (hi : IntsAre vs [x, y]) (hx : 0 ≤ x) (hy : 0 ≤ y ∧ y < 2147483647)
    (hdp : dp + 3 < recursionLimit) (hun : un + 208 < cLine)
    (ret : ∀ v add vs' x' y' h' tk', (∀ q ∈ (aS, listOf vs.toArray n) :: rest, ∀ p ∈ add, q.1 < p.1) → (IsStretch add v ∨ (v = lv ∧ lv ≠ .none)) → IntsAre vs' [x', y'] → 0 ≤ x' → (0 ≤ y' ∧ y' < 2147483647) → Fr h₀ L h' m → News h₀ L h' ((aS, listOf vs'.toArray n) :: (add ++ rest)) → Q v {s with heap := h', toks := tk'}) :
    wpAny (model Challenge.rw_on0332_01.row.prog w) (ktrTop dp un gd cn cs L a ccd cl outer) (call (.ref 105) [.ref aS, .int most tm, lv]) Q E s := by
  rcases hlv with rfl | hlv
  · exact stretch_none B F X N T hk off hm hi hx hy hdp hun fun v add vs' x' y' h' tk' a1 a2 => ret v add vs' x' y' h' tk' a1 (.inl a2)
  · have hne : lv ≠ .none := by
      obtain ⟨aP, _, _, _, _, _, rfl, _⟩ := hlv
      intro e; cases e
    exact stretch_some B F X N T hk hlv off hm hi hx hy hdp hun fun v add vs' x' y' h' tk' a1 a2 => ret v add vs' x' y' h' tk' a1 (a2.imp_right fun q => ⟨q, hne⟩)
theorem permA {h₀ h : Heap} {L : Addr} {a b c : Addr × Obj} {add R : Led} (N : News h₀ L h (a :: (add ++ b :: c :: R))) : News h₀ L h (a :: b :: c :: (add ++ R)) := fun p hp => N p (by
  simp only [List.mem_cons, List.mem_append] at hp ⊢
  rcases hp with hp | hp | hp | hp | hp
  · exact .inl hp
  · exact .inr (.inr (.inl hp))
  · exact .inr (.inr (.inr (.inl hp)))
  · exact .inr (.inl hp)
  · exact .inr (.inr (.inr (.inr hp))))
theorem permB {h₀ h : Heap} {L : Addr} {a b c : Addr × Obj} {add R : Led} (N : News h₀ L h (b :: (add ++ a :: c :: R))) : News h₀ L h (a :: b :: c :: (add ++ R)) := fun p hp => N p (by
  simp only [List.mem_cons, List.mem_append] at hp ⊢
  rcases hp with hp | hp | hp | hp | hp
  · exact .inr (.inr (.inl hp))
  · exact .inl hp
  · exact .inr (.inr (.inr (.inl hp)))
  · exact .inr (.inl hp)
  · exact .inr (.inr (.inr (.inr hp))))
theorem swap2 {h₀ h : Heap} {L : Addr} {a b : Addr × Obj} {R : Led} (N : News h₀ L h (a :: b :: R)) : News h₀ L h (b :: a :: R) := fun p hp => N p (by
  simp only [List.mem_cons] at hp ⊢
  rcases hp with hp | hp | hp
  · exact .inr (.inl hp)
  · exact .inl hp
  · exact .inr (.inr hp))
theorem kst_knownX {h₀ h : Heap} {L : Addr} {m : Str → Option Value} {x : Str} {v : Value} {ps : List (Str × Value)} (hp : ∀ p ∈ ps, m p.1 = some p.2) (F : Fr h₀ L h (fun y => if y = x then some v else m y)) :
    Fr h₀ L h (fun y => if y = x then some v else kstB m ps y) := by
  have e : kstB m ps = m := funext fun z => kstB_eq hp fun _ => rfl
  rw [e]; exact F
/-- the loop's invariant: source, the dict of one, the cell of far; the rest lies still -/
inductive LJ (w : World) (aS dI cA xI : Addr) (n3 : Nat) (t1 t2 tM : Tok) (M : Int) (m : Str → Option Value) (nx : Led) : Prop
  | mk (pvs : List Value) (x y : Int) (r : Addr) (rv : List Value) (k : Nat) (aL : Addr) (lv : List Value) (kl : Nat) (ns : List Int) (lastv : Value) (oC : Obj) (cv : Option Value) (rest : Led)
    (hnx : nx = (aS, listOf pvs.toArray n3) :: (dI, holesD w t1 t2 (.int M tM) (.ref r)) :: (cA, oC) :: rest) (off : OwnOff rest [aS, dI, cA]) (hx : (xI, instObj 59 dI) ∈ rest) (hr : (r, listOf rv.toArray k) ∈ rest) (hL : (aL, listOf lv.toArray kl) ∈ rest)
    (hD : DatAll rest rv ((runs ns).map pd)) (hi : IntsAre lv ns) (hp : ns.Pairwise (· < ·)) (hb : ∀ z ∈ ns, 0 ≤ z ∧ z < M) (hl : ns.length < 1000) (hs : IntsAre pvs [x, y]) (hx0 : 0 ≤ x) (hy0 : 0 ≤ y ∧ y < 2147483647) (hc : oC.data = .cell cv) (hlast : lastv = .none ∨ IsStretch rest lastv)
    (hm : ∀ p ∈ [(Str.ofString "source", Value.ref aS), (Str.ofString "most", Value.int M tM), (Str.ofString "one", Value.ref xI), (Str.ofString "lacks", Value.ref aL), (Str.ofString "last", lastv)], m p.1 = some p.2) : LJ w aS dI cA xI n3 t1 t2 tM M m nx
theorem stretch_mono {R R' : Led} {v : Value} (h : IsStretch R v) (hs : ∀ p ∈ R, p ∈ R') : IsStretch R' v := by
  obtain ⟨a, b, e, u1, u2, n, hv, hm⟩ := h
  exact ⟨a, b, e, u1, u2, n, hv, hs _ hm⟩
theorem off_add {add R : Led} {adr : List Addr} (h : OwnOff R adr) (hf : ∀ b ∈ adr, ∀ p ∈ add, b ≠ p.1) : OwnOff (add ++ R) adr := by
  intro p hp b hb
  rcases List.mem_append.mp hp with hp | hp
  · exact Ne.symm (hf b hb p hp)
  · exact h p hp b hb
theorem lj_end {w : World} {aS dI cA xI : Addr} {n3 : Nat} {t1 t2 tM : Tok} {M : Int} {g h' : Heap} {L : Addr} {m' : Str → Option Value} {addT rest own : Led} {a b c a0 b0 c0 : Addr × Obj} {s₁ : Shared} {tk : Nat}
    (F : Fr g L h' m') (N : News g L h' (a :: b :: c :: (addT ++ (rest ++ own)))) (hoff : OwnOff own ((a0 :: b0 :: c0 :: rest).map (·.1))) (ea : a0.1 = a.1) (eb : b0.1 = b.1) (ec : c0.1 = c.1)
    (hne : ∀ p ∈ addT, ∀ q ∈ own, q.1 ≠ p.1) (J : LJ w aS dI cA xI n3 t1 t2 tM M m' (a :: b :: c :: (addT ++ rest))) :
    InvEndG g L (fun m nx => LJ w aS dI cA xI n3 t1 t2 tM M m nx) own s₁ { s₁ with heap := h', toks := tk } := by
  refine InvEndG.intro F N J ?_ ?_ ?_
  · intro p hp z hz
    have o := hoff p hp
    simp only [List.map_cons, List.map_append, List.mem_cons, List.mem_append] at hz o
    rcases hz with hz | hz | hz | hz | hz
    · exact o z (.inl (hz.trans ea.symm))
    · exact o z (.inr (.inl (hz.trans eb.symm)))
    · exact o z (.inr (.inr (.inl (hz.trans ec.symm))))
    · obtain ⟨q, hq, rfl⟩ := List.mem_map.mp hz
      exact hne q hq p hp
    · exact o z (.inr (.inr (.inr hz)))
  · intro p hp
    simp only [List.mem_cons, List.mem_append] at hp ⊢
    rcases hp with hp | hp | hp | hp | hp
    · exact .inl hp
    · exact .inr (.inl hp)
    · exact .inr (.inr (.inl hp))
    · exact .inr (.inr (.inr (.inl hp)))
    · exact .inr (.inr (.inr (.inr (.inl hp))))
  · intro p hp
    simp only [List.mem_cons, List.mem_append]
    exact .inr (.inr (.inr (.inr (.inr hp))))
theorem filt_bounds {ns : List Int} {M : Int} {q : Int → Bool} (h : ∀ z ∈ ns, 0 ≤ z ∧ z < M) : ∀ z ∈ ns.filter q, 0 ≤ z ∧ z < M := fun z hz => h z (List.mem_filter.mp hz).1
theorem cut_far {ns : List Int} {M f : Int} (hp : ns.Pairwise (· < ·)) (hb : ∀ z ∈ ns, 0 ≤ z ∧ z < M) : cutR f M (runs ns) = runs (ns.filter fun k => decide (k < f)) := by
  rw [cutR_runs f M hp]
  congr 1
  refine List.filter_congr fun k hk => ?_
  have := hb k hk
  by_cases h : f ≤ k
  · have h1 : ¬ k < f := by omega
    simp [h, this.2, h1]
  · have h1 : k < f := by omega
    simp [h, h1]
theorem cut_end {ns : List Int} {M : Int} (hp : ns.Pairwise (· < ·)) (hb : ∀ z ∈ ns, 0 ≤ z ∧ z < M) : cutR 0 M (runs ns) = [] := by
  rw [cut_far hp hb]
  have e : (ns.filter fun k => decide (k < 0)) = [] := by
    refine List.filter_eq_nil_iff.mpr fun k hk => ?_
    have := hb k hk
    simp; omega
  rw [e]; rfl
end Mine

namespace Mine
local macro_rules | `(tactic| k_all) => `(tactic| first | assumption | exact OwnOff.ne (by assumption) (by k_memK))
local macro_rules | `(tactic| k_mem) => `(tactic| first | exact List.Mem.head _ | assumption | (refine List.mem_append.mpr (Or.inl ?_); assumption) | (refine List.mem_append.mpr (Or.inr ?_); k_mem) | (refine' List.Mem.tail _ ?_; k_mem))
local macro_rules | `(tactic| kqd_sub) => `(tactic| (intro p9 h9; k_mem))
local macro_rules | `(tactic| walk_at "compareOp NotEq ref ref") => `(tactic| (k_here; (with_reducible show wpAny _ _ (compareOp CmpOp.NotEq (Value.ref _) (Value.ref _)) _ _ _); k_dflt (first
  | (refine' pairs_ne (qs := [(2, 4)]) ?q1 ?q2 ?q3 ?q4 ?q5 ?q6 ?q7 ?q8 ?_; (case q1 => k_asm); (case q2 => k_mem); (case q3 => assumption); (case q4 => kqd_sub); (case q5 => k_mem); (case q6 => exact DatAll.one (DatIn.tuple (by k_mem) (.cons (.int _ _) (.cons (.int _ _) .nil)))); (case q7 => ke_room); (case q8 => decide); k_whole)
  | (refine' pairs_ne (qs := [(0, 2), (4, 8)]) ?q1 ?q2 ?q3 ?q4 ?q5 ?q6 ?q7 ?q8 ?_; (case q1 => k_asm); (case q2 => k_mem); (case q3 => assumption); (case q4 => kqd_sub); (case q5 => k_mem); (case q6 => exact DatAll.cons (DatIn.tuple (by k_mem) (.cons (.int _ _) (.cons (.int _ _) .nil))) (DatAll.one (DatIn.tuple (by k_mem) (.cons (.int _ _) (.cons (.int _ _) .nil))))); (case q7 => ke_room); (case q8 => decide); k_whole)
  | refine stop_of ?_)))
local macro_rules | `(tactic| walk_at "call ref") => `(tactic| (k_here; (first | (with_reducible show wpAny _ _ (call (Value.ref 35) _ _) _ _ _) | (with_reducible show wpAny _ _ (call (Value.ref 42) _ _) _ _ _) | (with_reducible show wpAny _ _ (call (Value.ref 49) _ _) _ _ _) | (with_reducible show wpAny _ _ (call (Value.ref 56) _ _) _ _ _) | (with_reducible show wpAny _ _ (call (Value.ref 70) _ _) _ _ _) | (with_reducible show wpAny _ _ (call (Value.ref 77) _ _) _ _ _) | (with_reducible show wpAny _ _ (call (Value.ref 98) _ _) _ _ _) | (with_reducible show wpAny _ _ (call (Value.ref 105) _ _) _ _ _) | (with_reducible show wpAny _ _ (call (Value.ref 110) _ _) _ _ _)); refine stop_of ?_))
local macro_rules | `(tactic| walk_at "exec For Name Call cons nil") => `(tactic| (k_here; (rename Fr _ _ _ _ => lF'); (with_unfolding_all refine' For_invVF lF' ?k1 ?k2 ?_; (case k1 => exact rfl); (case k2 => exact rfl); k_whole)))
local macro_rules | `(tactic| walk_at "CompSrcT") => `(tactic| (k_here; refine stop_of ?_))
local macro_rules | `(tactic| walk_at "pyIter ref") => `(tactic| ((with_reducible show wpAny _ _ (pyIter (Value.ref _)) (fun it s₂ => LoopAtV _ _ _ _ _ _ _ _ _ it s₂) _ _); refine stop_of ?_))
theorem main_ok : PySem.Challenge.rw_on0332_01.Holds := hd (by
  k_go0
  rename_i w s₀ s₁ mg mb G Y fa o pm doc ho hg KX XX VV GL T BB TE TW w10 w9 MM w8 w7 hcd ns hs hlay0 hL1 hr1 hl2 w5 w4 l vs w1 hL ra w2 r0 hI hr hc1 hc2 K0 hD h0 tk0 F0 oC hoC N0 X0
  have hns : ns.length < 64 := by omega
  clear hD
  obtain ⟨m0, hm0, F⟩ : ∃ m, (∀ p ∈ [(Str.ofString "script", Value.ref l)], m p.1 = some p.2) ∧ Fr s₁.heap s₁.heap.objs.size h0 m := ⟨_, List.forall_mem_cons.mpr ⟨rfl, List.forall_mem_nil _⟩, F0⟩
  obtain ⟨v0, hC⟩ : ∃ v, oC.data = .cell v := ⟨_, hoC⟩
  clear F0 hoC
  have F1 := kst_known hm0 F
  dsimp only [kstB] at F1
  clear F hm0
  all_goals (try k_fold)
  k_steps
  -- first.fill(2, 4)
  unfold Stop
  (try dsimp only [List.cons_append, List.nil_append])
  refine' fill_use2 (ps := [(0, 8)]) ?a1 ?a2 ?a3 ?a4 ?a5 ?a6 ?a7 ?a8 ?a9 ?a10 ?a11 ?a12 ?a15 ?a16 ?a17 ?_
  case a1 => k_asm
  case a2 => k_asm
  case a3 => k_asm
  case a4 => k_asm
  case a5 => k_asm
  case a6 => exact rfl
  case a7 => k_mem
  case a8 => k_updF
  case a9 => k_ne
  case a10 => k_mem
  case a11 => k_ne
  case a12 => exact DatAll.one (DatIn.tuple (by k_mem) (.cons (.int _ _) (.cons (.int _ _) .nil)))
  case a15 => decide
  case a16 => ktr_room
  case a17 => ktr_units
  intro f1 fv1 nf1 r1 rv1 nr1 add1 h1 tk1 hlt1 hf1 hr1 hF1 hR1 F1 N1
  (try dsimp only at N1)
  (try k_fold)
  k_steps
  -- first.reach()
  unfold Stop
  (try dsimp only [List.cons_append, List.nil_append])
  refine' reach_use (v := 4) ?b1 ?b2 ?b3 ?b4 ?b5 ?b6 ?b7 ?b8 ?b9 hR1 ?b10 ?b11 ?b12 ?b13 ?b14 ?_
  case b1 => k_asm
  case b2 => k_asm
  case b3 => k_asm
  case b4 => k_asm
  case b5 => k_asm
  case b6 => exact rfl
  case b7 => k_mem
  case b8 => k_mem
  case b9 => k_mem
  case b10 => kqd_sub
  case b11 => decide
  case b12 => decide
  case b13 => ktr_room
  case b14 => ktr_units
  intro t2 h2 tk2 F2 N2
  (try k_fold)
  k_steps
  -- _law_pool(script, 0)
  unfold Stop
  refine' pool_ok (rest := [(s₁.heap.objs.size + 1, oC)]) ?c1 ?c2 ?c3 ?c4 ?c5 ?c6 ?c7 ?c8 ?c9 ?c10 ?c11 ?_
  case c1 => k_asm
  case c2 => k_asm
  case c3 => k_asm
  case c4 => (rename News _ _ _ _ => N9); exact fun p hp => N9 p (by cases List.mem_singleton.mp hp; k_mem)
  case c5 => k_asm
  case c6 => exact rfl
  case c7 => assumption
  case c8 => assumption
  case c9 => omega
  case c10 => ktr_room
  case c11 => ktr_units
  intro aS pv3 n3 x3 y3 h3 tk3 hlt3 hi3 hx3 hy3 F3 N3
  (try k_fold)
  k_steps
  have hLa : @LT.lt Nat _ (s₁.heap.objs.size + 1) aS := hlt3 _ (.head _)
  clear hlt3
  -- _law_take(source, 40)
  unfold Stop
  refine' take_use ?d1 ?d2 ?d3 ?d4 ?d5 ?d6 ?d7 ?d8 ?d9 ?d10 ?d11 ?d12 ?d13 ?_
  case d1 => k_asm
  case d2 => k_asm
  case d3 => k_asm
  case d4 => k_asm
  case d5 => k_asm
  case d6 => exact rfl
  case d7 => k_updF
  case d8 => exact hi3
  case d9 => exact hx3
  case d10 => exact hy3
  case d11 => decide
  case d12 => ktr_room
  case d13 => ktr_units
  intro g4 tg4 pv4 x4 y4 h4 tk4 hg40 hg41 hi4 hx4 hy4 F4 N4
  (try dsimp only at N4)
  (try k_fold)
  k_steps
  -- _law_stands(one, lacks, most)
  rename_i xI dI h12 l14 l2 g L h11 B X2 T2 lifted3 lifted2 lifted1 lifted0 tk2' h10 D2 h9 l13 lR h8 l12 h7 F1 N1 tk1 Gc kX h6 tk0' t1 u1 v1 rgX aa lL vsL cL h5 tkp hIL l11 D0 h4 l10 h3' h2' h1 h0' F5 N5
  have hMb : 0 < 1 + g4 ∧ 1 + g4 < 1000 := by omega
  have hn0 : ((1 + g4 - 0).toNat : Int) = 1 + g4 := by omega
  have hruns : runs (rangeKs 0 (1 + g4 - 0).toNat) = [(0, 1 + g4)] := by rw [runs_range _ (by omega), hn0]
  obtain ⟨t1, t2, N6⟩ : ∃ t1 t2, News T.heap s₁.heap.objs.size h0' ((aS, listOf pv4.toArray n3) :: (dI, holesD w t1 t2 (.int (1 + g4) tk4) (.ref lR)) :: (s₁.heap.objs.size + 1, oC) ::
      [(lL, listOf vsL.toArray cL), (lR, listOf [Value.ref D2].toArray 0), (D2, { cls := .type "tuple", data := .seq #[Value.int 0 (tk2' + 2), Value.int (1 + g4) tk4] }), (xI, instObj 59 dI)]) := by
    refine' ⟨?v1, ?v2, sub_news N5 (all7 ?g1 ?g2 ?g3 ?g4 ?g5 ?g6 ?g7)⟩
    case g2 => k_mem
    case g1 => k_mem
    case g3 => k_mem
    case g4 => k_mem
    case g5 => k_mem
    case g6 => k_mem
    case g7 => k_mem
  obtain ⟨m5, hm5, F6⟩ : ∃ m, (∀ p ∈ [(Str.ofString "source", Value.ref aS), (Str.ofString "most", Value.int (1 + g4) tk4), (Str.ofString "one", Value.ref xI), (Str.ofString "lacks", Value.ref lL), (Str.ofString "last", Value.none)], m p.1 = some p.2) ∧ Fr s₁.heap s₁.heap.objs.size h0' m := by
    refine ⟨_, ?_, F5⟩
    repeat' (first | exact List.forall_mem_nil _ | refine List.forall_mem_cons.mpr ⟨rfl, ?_⟩)
  clear F5 N5 N1 F1
  have F7 := kst_known hm5 F6
  dsimp only [kstB] at F7
  clear F6
  unfold Stop
  refine' stands_ok (ns := rangeKs 0 (1 + g4 - 0).toNat) ?e1 ?e2 ?e3 ?e4 ?e5 ?e6 ?e7 ?e8 ?e9 ?e10 ?e11 ?e12 ?e13 ?e14 ?e15 ?_
  case e1 => k_asm
  case e2 => exact F7
  case e3 => k_asm
  case e4 => exact N6
  case e5 => k_asm
  case e6 => exact rfl
  case e7 => k_mem
  case e8 => k_mem
  case e9 => k_mem
  case e10 => k_mem
  case e11 => rw [hruns]; exact DatAll.one (DatIn.tuple (by k_mem) (.cons (.int _ _) (.cons (.int _ _) .nil)))
  case e12 => exact hIL
  case e13 => rw [rangeKs_length]; omega
  case e14 => ktr_room
  case e15 => ktr_units
  intro h7 tk7 F8 N8
  clear N6 F7
  (try k_fold)
  k_steps
  -- _law_take(source, 10)
  unfold Stop
  refine' take_use ?f1 ?f2 ?f3 ?f4 ?f5 ?f6 ?f7 ?f8 ?f9 ?f10 ?f11 ?f12 ?f13 ?_
  case f1 => k_asm
  case f2 => k_asm
  case f3 => k_asm
  case f4 => k_asm
  case f5 => k_asm
  case f6 => exact rfl
  case f7 => k_updF
  case f8 => exact hi4
  case f9 => exact hx4
  case f10 => exact hy4
  case f11 => decide
  case f12 => ktr_room
  case f13 => ktr_units
  intro g9 tg9 pv9 x9 y9 h9' tk9 hg90 hg91 hi9 hx9 hy9 F9 N9
  (try dsimp only at N9)
  (try k_fold)
  k_steps
  -- the loop
  rename_i hR tkR tr1 tr2 tr3 hIR FR NR hkeep
  have hLd : @Ne Nat (s₁.heap.objs.size + 1) dI := by omega
  have haS : @Ne Nat aS dI := by omega
  have haC : @Ne Nat aS (s₁.heap.objs.size + 1) := by omega
  unfold Stop
  refine range_loop (n := (g9 - 0).toNat) (fun _ m nx => LJ w aS dI (s₁.heap.objs.size + 1) xI n3 t1 t2 tk4 (1 + g4) m nx) rfl hIR (small_one (by omega) (by omega) (by omega) (by omega)) (rangeSize_nat _ _) FR NR ?start ?turn ?done
  case start =>
    refine' LJ.mk pv9 x9 y9 lR _ _ lL vsL cL (rangeKs 0 (1 + g4 - 0).toNat) .none oC v0 _ rfl ?j1 ?j2 ?j3 ?j4 ?j5 hIL (range_pair _ _) ?j6 ?j7 hi9 hx9 hy9 hC (.inl rfl) ?j8
    case j2 => k_mem
    case j3 => k_mem
    case j4 => k_mem
    case j5 => rw [hruns]; exact DatAll.one (DatIn.tuple (by k_mem) (.cons (.int _ _) (.cons (.int _ _) .nil)))
    case j6 => intro z hz; have := mem_rangeKs hz; omega
    case j7 => rw [rangeKs_length]; omega
    case j8 => (repeat' (first | exact List.forall_mem_nil _ | refine List.forall_mem_cons.mpr ⟨rfl, ?_⟩))
    case j1 =>
      intro p hp b hb
      simp only [List.mem_cons, List.not_mem_nil, or_false] at hp hb
      rcases hp with rfl | rfl | rfl | rfl <;> rcases hb with rfl | rfl | rfl <;> (refine neN ?_; dsimp only; omega)
  case turn =>
    clear FR NR hIR
    rintro i kk tt m₁ nx h tk own hi hoff ⟨pvs, x, y, r, rv, k, aL, lv, kl, zs, lastv, oCc, cv, rest, rfl, off, hx, hr, hL, hD, hiL, hpw, hbd, hlen, hs0, hx0, hy0, hcc, hlast, hm⟩ FA NA
    have FB := kst_knownX hm FA
    dsimp only [kstB] at FB
    clear FA
    simp only [List.cons_append] at NA
    have offR : OwnOff (rest ++ own) [aS, dI, s₁.heap.objs.size + 1] := by
      intro p hp b hb
      rcases List.mem_append.mp hp with hp | hp
      · exact off p hp b hb
      · refine hoff p hp b ?_
        simp only [List.mem_cons, List.not_mem_nil, or_false, List.map_cons] at hb ⊢
        rcases hb with rfl | rfl | rfl
        · exact .inl rfl
        · exact .inr (.inl rfl)
        · exact .inr (.inr (.inl rfl))
    have subR : ∀ p ∈ rest, p ∈ rest ++ own := fun p hp => List.mem_append.mpr (.inl hp)
    have hxR := subR _ hx
    have hrR := subR _ hr
    have hLR := subR _ hL
    have hDR := hD.mono subR
    have hlastR : lastv = .none ∨ IsStretch (rest ++ own) lastv := hlast.imp_right fun q => stretch_mono q subR
    k_steps
    -- _law_stretch(source, most, last)
    unfold Stop
    refine' stretch_any ?g1 ?g2 ?g3 ?g4 ?g5 ?g6 ?g7 ?g8 ?g9 hs0 hx0 hy0 ?g13 ?g14 ?_
    case g1 => k_asm
    case g2 => k_asm
    case g3 => k_asm
    case g4 => exact NA
    case g5 => k_asm
    case g6 => exact rfl
    case g7 => exact hlastR.imp_right fun q => stretch_mono q fun p hp => .tail _ (.tail _ hp)
    case g8 =>
      refine fun p hp b hb => ?_
      cases List.mem_singleton.mp hb
      simp only [List.mem_cons] at hp
      rcases hp with rfl | rfl | hp
      · exact haS.symm
      · exact haC.symm
      · exact offR p hp _ (.head _)
    case g9 => exact hMb
    case g13 => ktr_room
    case g14 => ktr_units
    intro lw add1' pw xw yw hw tkw hltw hstw hiw hxw hyw FC NC0
    have hstw2 : IsStretch (add1' ++ rest) lw := by
      rcases hstw with q | ⟨rfl, q⟩
      · exact stretch_mono q fun p hp => List.mem_append.mpr (.inl hp)
      · exact stretch_mono (hlast.resolve_left q) fun p hp => List.mem_append.mpr (.inr hp)
    have NC := permA NC0
    clear NC0 hstw
    have offC : OwnOff (add1' ++ (rest ++ own)) [aS, dI, s₁.heap.objs.size + 1] := off_add offR fun b hb p hp => by
      simp only [List.mem_cons, List.not_mem_nil, or_false] at hb
      rcases hb with rfl | rfl | rfl
      · exact Nat.ne_of_lt (hltw _ (.head _) p hp)
      · exact Nat.ne_of_lt (hltw _ (.tail _ (.head _)) p hp)
      · exact Nat.ne_of_lt (hltw _ (.tail _ (.tail _ (.head _))) p hp)
    obtain ⟨aP, sb, se, su1, su2, sn, rfl, hP0⟩ := hstw2
    have hP : (aP, ({ cls := .type "tuple", data := .seq #[.int sb su1, .int se su2] sn } : Obj)) ∈ add1' ++ (rest ++ own) := by
      rcases List.mem_append.mp hP0 with q | q
      · exact List.mem_append.mpr (.inl q)
      · exact List.mem_append.mpr (.inr (subR _ q))
    (try k_fold)
    k_steps
    -- _law_filled(one, lacks, last)
    unfold Stop
    (rename News _ _ _ _ => ND)
    refine' filled_ok (ns := zs) (b := sb) (e := se) ?k1 ?k2 ?k3 (swap2 ND) ?k5 ?k6 ?k7 ?k8 ?k9 ?k10 ?k11 ?k12 hiL hlen (cutF_runs sb se hpw) ?k16 ?k17 ?_
    case k1 => k_asm
    case k2 => k_asm
    case k3 => k_asm
    case k5 => k_asm
    case k6 => exact rfl
    case k7 =>
      refine fun p hp b hb => ?_
      cases List.mem_singleton.mp hb
      rcases List.mem_cons.mp hp with rfl | hp
      · exact haS
      · rcases List.mem_cons.mp hp with rfl | hp
        · exact hLd
        · exact offC p hp _ (.tail _ (.head _))
    case k8 => k_mem
    case k9 => k_mem
    case k10 => k_mem
    case k11 => k_mem
    case k12 => exact hDR.mono fun p hp => .tail _ (.tail _ (List.mem_append.mpr (.inr hp)))
    case k16 => ktr_room
    case k17 => ktr_units
    intro nl ys nn r2 rv2 nr2 add2 hf tkf hne2 hnl hys hr2 hR2 FD ND0
    have NE := permB ND0
    clear ND0 ND
    rw [cutR_runs sb se hpw] at hR2
    have hpw2 := hpw.filter (fun k => !decide (sb ≤ k ∧ k < se))
    have hbd2 := filt_bounds (q := fun k => !decide (sb ≤ k ∧ k < se)) hbd
    have hlen2 : (zs.filter fun k => !decide (sb ≤ k ∧ k < se)).length < 1000 := Nat.lt_of_le_of_lt (List.length_filter_le ..) hlen
    generalize (zs.filter fun k => !decide (sb ≤ k ∧ k < se)) = zs2 at hys hR2 hpw2 hbd2 hlen2
    have offD : OwnOff (add2 ++ (add1' ++ (rest ++ own))) [aS, dI, s₁.heap.objs.size + 1] := off_add offC fun b hb p hp => by
      simp only [List.mem_cons, List.not_mem_nil, or_false] at hb
      rcases hb with rfl | rfl | rfl
      · exact hne2 _ (.tail _ (.head _)) p hp
      · exact hne2 _ (.head _) p hp
      · exact hne2 _ (.tail _ (.tail _ (.head _))) p hp
    (try k_fold)
    k_steps
    -- _law_stands(one, lacks, most)
    unfold Stop
    refine' stands_ok (ns := zs2) ?l1 ?l2 ?l3 ?l4 ?l5 ?l6 ?l7 ?l8 ?l9 ?l10 ?l11 hys hlen2 ?l14 ?l15 ?_
    case l1 => k_asm
    case l2 => k_asm
    case l3 => k_asm
    case l4 => k_asm
    case l5 => k_asm
    case l6 => exact rfl
    case l7 => k_mem
    case l8 => k_mem
    case l9 => k_mem
    case l10 => k_mem
    case l11 => exact hR2.mono fun p hp => .tail _ (.tail _ (.tail _ (List.mem_append.mpr (.inl hp))))
    case l14 => ktr_room
    case l15 => ktr_units
    intro hg tkg FE NF
    (try k_fold)
    k_steps
    -- _law_take(source, 8)
    unfold Stop
    refine' take_use ?m1 ?m2 ?m3 ?m4 ?m5 ?m6 ?m7 hiw hxw hyw ?m11 ?m12 ?m13 ?_
    case m1 => k_asm
    case m2 => k_asm
    case m3 => k_asm
    case m4 => k_asm
    case m5 => k_asm
    case m6 => exact rfl
    case m7 => k_updF
    case m11 => decide
    case m12 => ktr_room
    case m13 => ktr_units
    intro gz tgz pz xz yz hz tkz hgz0 hgz1 hiz hxz hyz FG NG
    (try dsimp only at NG)
    (try k_fold)
    k_steps
    · -- far
      unfold Stop
      refine' take_use ?n1 ?n2 ?n3 ?n4 ?n5 ?n6 ?n7 hiz hxz hyz ?n11 ?n12 ?n13 ?_
      case n1 => k_asm
      case n2 => k_asm
      case n3 => k_asm
      case n4 => k_asm
      case n5 => k_asm
      case n6 => exact rfl
      case n7 => k_updF
      case n11 => exact ⟨by omega, by omega⟩
      case n12 => ktr_room
      case n13 => ktr_units
      intro gf tgf pf xf yf hh tkh hgf0 hgf1 hif hxf hyf FH NH
      (try dsimp only at NH)
      (try k_fold)
      k_steps
      -- one.end_at(far)
      rename_i hi' oF FI NI hcF
      unfold Stop
      (try dsimp only [List.cons_append, List.nil_append])
      refine' end_ok (ps := runs zs2) ?q1 ?q2 ?q3 (swap2 NI) ?q5 ?q6 ?q7 ?q8 ?q9 ?q10 ?q11 ?q12 ?q13 ?_
      case q1 => k_asm
      case q2 => exact FI
      case q3 => k_asm
      case q5 => k_asm
      case q6 => exact rfl
      case q7 =>
        refine fun p hp b hb => ?_
        cases List.mem_singleton.mp hb
        rcases List.mem_cons.mp hp with rfl | hp
        · exact haS
        · rcases List.mem_cons.mp hp with rfl | hp
          · exact hLd
          · exact offD p hp _ (.tail _ (.head _))
      case q8 => k_mem
      case q9 => k_mem
      case q10 => exact hR2.mono fun p hp => .tail _ (.tail _ (List.mem_append.mpr (.inl hp)))
      case q11 => exact Nat.lt_of_le_of_lt (runs_len zs2) hlen2
      case q12 => ktr_room
      case q13 => ktr_units
      intro r3 rv3 nr3 add3 hj tkj hne3 hr3 hR3 FJ NJ0
      have NJ := permB NJ0
      clear NJ0 NI
      rw [cut_far hpw2 hbd2] at hR3
      have offE : OwnOff (add3 ++ (add2 ++ (add1' ++ (rest ++ own)))) [aS, dI, s₁.heap.objs.size + 1] := off_add offD fun b hb p hp => by
        simp only [List.mem_cons, List.not_mem_nil, or_false] at hb
        rcases hb with rfl | rfl | rfl
        · exact hne3 _ (.tail _ (.head _)) p hp
        · exact hne3 _ (.head _) p hp
        · exact hne3 _ (.tail _ (.tail _ (.head _))) p hp
      (try k_fold)
      k_steps
      -- [place for place in lacks if place < far]
      unfold Stop
      refine LCt.CompSrcT.ledger (ax := nl) rfl (by k_asm) (by k_asm) (by k_mem) (by rw [List.size_toArray, hys.length, PySem.sizeLine_eq]; omega) ?_
      intro gq
      refine kci_list (fun l k => if k < gf then l ++ [k] else l) hys ?turn2 ?fin2 ?grow2
      case grow2 => intro l k; dsimp only; split <;> simp
      case turn2 =>
        intro kq tq I oI C oC2 Dq m₂ yq lq hq tkq E' hkn hyq hCq hxq F' N' off' ne' hmk
        k_steps
        · refine' LCg.CompEnd.intro ?eF ?eN _ (fun _ h => h) off' ?eS (kci_el ?eV rfl rfl)
          case eF => k_asm
          case eN => k_asm
          case eS => exact .inr ⟨_, by k_mem, rfl, _, rfl⟩
          case eV => exact if_pos (by assumption)
        · refine' LCg.CompEnd.intro ?eF ?eN _ (fun _ h => h) off' ?eS (kci_no ?eV rfl)
          case eF => k_asm
          case eN => k_asm
          case eS => exact .inr ⟨_, by k_mem, rfl, _, rfl⟩
          case eV => exact if_neg (by assumption)
      case fin2 =>
        unfold KPfDone
        intro yq hyq hyq9
        rw [foldl_filter (fun k => decide (k < gf)) _ (fun l k => by simp only [decide_eq_true_eq])] at hyq
        have hpw3 := hpw2.filter (fun k => decide (k < gf))
        have hbd3 := filt_bounds (q := fun k => decide (k < gf)) hbd2
        have hlen3 : (zs2.filter fun k => decide (k < gf)).length < 1000 := Nat.lt_of_le_of_lt (List.length_filter_le ..) hlen2
        generalize (zs2.filter fun k => decide (k < gf)) = zs3 at hyq hR3 hpw3 hbd3 hlen3
        unfold LCg.FinA
        intro Dq hq tkq FK NK oK
        have oKm := off1_mem oK
        clear oK NJ FJ
        have NL : News T.heap s₁.heap.objs.size hq ((aS, listOf pf.toArray n3) :: (dI, holesD w t1 t2 (.int (1 + g4) tk4) (.ref r3)) :: (s₁.heap.objs.size + 1, oF) :: ((Dq, listOf yq.toArray yq.length) :: (add3 ++ (add2 ++ (add1' ++ (rest ++ own)))))) := fun p hp => NK p (by
          simp only [List.mem_cons] at hp ⊢
          rcases hp with hp | hp | hp | hp | hp
          · exact .inr (.inl hp)
          · exact .inr (.inr (.inl hp))
          · exact .inr (.inr (.inr (.inl hp)))
          · exact .inl hp
          · exact .inr (.inr (.inr (.inr hp))))
        (try dsimp only at FK)
        (try k_fold)
        k_steps
        -- _law_stands once more
        unfold Stop
        refine' stands_ok (ns := zs3) ?r1 ?r2 ?r3 NL ?r5 ?r6 ?r7 ?r8 ?r9 ?r10 ?r11 hyq hlen3 ?r14 ?r15 ?_
        case r1 => k_asm
        case r2 => exact FK
        case r3 => k_asm
        case r5 => k_asm
        case r6 => exact rfl
        case r7 => k_mem
        case r8 => k_mem
        case r9 => k_mem
        case r10 => k_mem
        case r11 => exact hR3.mono fun p hp => .tail _ (.tail _ (.tail _ (.tail _ (List.mem_append.mpr (.inl hp)))))
        case r14 => ktr_room
        case r15 => ktr_units
        intro hs' tks FL NM
        clear NK NL FK
        (try k_fold)
        k_steps
        have eA : (Dq, listOf yq.toArray yq.length) :: (add3 ++ (add2 ++ (add1' ++ (rest ++ own)))) = ((Dq, listOf yq.toArray yq.length) :: (add3 ++ (add2 ++ add1'))) ++ (rest ++ own) := by simp only [List.cons_append, List.append_assoc]
        rw [eA] at NM
        refine' lj_end FL NM hoff rfl rfl rfl ?s1 ?s2
        case s1 =>
          intro p hp q hq
          have hq1 : q ∈ rest ++ own := List.mem_append.mpr (.inr hq)
          rcases List.mem_cons.mp hp with rfl | hp
          · exact oKm q (.tail _ (.tail _ (.tail _ (List.mem_append.mpr (.inr (List.mem_append.mpr (.inr (List.mem_append.mpr (.inr hq1)))))))))
          · rcases List.mem_append.mp hp with hp | hp
            · exact hne3 q (.tail _ (.tail _ (.tail _ (List.mem_append.mpr (.inr (List.mem_append.mpr (.inr hq1))))))) p hp
            · rcases List.mem_append.mp hp with hp | hp
              · exact hne2 q (.tail _ (.tail _ (.tail _ (List.mem_append.mpr (.inr hq1))))) p hp
              · exact Nat.ne_of_lt (hltw q (.tail _ (.tail _ (.tail _ hq1))) p hp)
        case s2 =>
          refine' LJ.mk pf xf yf r3 rv3 nr3 Dq yq yq.length zs3 (.ref aP) oF _ _ rfl ?p1 ?p2 ?p3 ?p4 ?p5 hyq hpw3 hbd3 hlen3 hif hxf hyf hcF ?p6 ?p7
          case p1 =>
            intro p hp b hb
            simp only [List.mem_append, List.mem_cons] at hp
            rcases hp with (hp | hp | hp | hp) | hp
            · subst hp
              simp only [List.mem_cons, List.not_mem_nil, or_false] at hb
              rcases hb with rfl | rfl | rfl
              · exact Ne.symm (oKm _ (.head _))
              · exact Ne.symm (oKm _ (.tail _ (.head _)))
              · exact Ne.symm (oKm _ (.tail _ (.tail _ (.head _))))
            · exact offE p (List.mem_append.mpr (.inl hp)) b hb
            · exact offE p (List.mem_append.mpr (.inr (List.mem_append.mpr (.inl hp)))) b hb
            · exact offE p (List.mem_append.mpr (.inr (List.mem_append.mpr (.inr (List.mem_append.mpr (.inl hp)))))) b hb
            · exact off p hp b hb
          case p2 => exact List.mem_append.mpr (.inr hx)
          case p3 => exact List.mem_append.mpr (.inl (.tail _ (List.mem_append.mpr (.inl hr3))))
          case p4 => exact List.mem_append.mpr (.inl (.head _))
          case p5 => exact hR3.mono fun p hp => List.mem_append.mpr (.inl (.tail _ (List.mem_append.mpr (.inl hp))))
          case p6 =>
            refine .inr ⟨aP, sb, se, su1, su2, sn, rfl, ?_⟩
            rcases List.mem_append.mp hP0 with q | q
            · exact List.mem_append.mpr (.inl (.tail _ (List.mem_append.mpr (.inr (List.mem_append.mpr (.inr q))))))
            · exact List.mem_append.mpr (.inr q)
          case p7 => (repeat' (first | exact List.forall_mem_nil _ | refine List.forall_mem_cons.mpr ⟨rfl, ?_⟩))
    · -- the turn's end
      (rename News _ _ _ _ => NZ); (rename Fr _ _ _ _ => FZ)
      rw [← List.append_assoc] at NZ
      refine' lj_end FZ NZ hoff rfl rfl rfl ?o1 ?o2
      case o1 =>
        intro p hp q hq
        rcases List.mem_append.mp hp with hp | hp
        · exact hne2 q (.tail _ (.tail _ (.tail _ (List.mem_append.mpr (.inr (List.mem_append.mpr (.inr hq))))))) p hp
        · exact Nat.ne_of_lt (hltw q (.tail _ (.tail _ (.tail _ (List.mem_append.mpr (.inr hq))))) p hp)
      case o2 =>
        refine' LJ.mk pz xz yz r2 rv2 nr2 nl ys nn zs2 (.ref aP) oCc cv _ rfl ?p1 ?p2 ?p3 ?p4 ?p5 hys hpw2 hbd2 hlen2 hiz hxz hyz hcc ?p6 ?p7
        case p1 =>
          intro p hp b hb
          refine offD p ?_ b hb
          simp only [List.mem_append] at hp ⊢
          rcases hp with (hp | hp) | hp
          · exact .inl hp
          · exact .inr (.inl hp)
          · exact .inr (.inr (.inl hp))
        case p2 => exact List.mem_append.mpr (.inr hx)
        case p3 => exact List.mem_append.mpr (.inl (List.mem_append.mpr (.inl hr2)))
        case p4 => exact List.mem_append.mpr (.inl (List.mem_append.mpr (.inl hnl)))
        case p5 => exact hR2.mono fun p hp => List.mem_append.mpr (.inl (List.mem_append.mpr (.inl hp)))
        case p6 => exact .inr ⟨aP, sb, se, su1, su2, sn, rfl, by rw [List.append_assoc]; exact List.mem_append.mpr (.inr hP0)⟩
        case p7 => (repeat' (first | exact List.forall_mem_nil _ | refine List.forall_mem_cons.mpr ⟨rfl, ?_⟩))
  case done =>
    clear FR NR hIR
    rintro m₁ nx h tk ⟨pvs, x, y, r, rv, k, aL, lv, kl, zs, lastv, oCc, cv, rest, rfl, off, hx, hr, hL, hD, hiL, hpw, hbd, hlen, hs0, hx0, hy0, hcc, hlast, hm⟩ FA NA
    have FB := kst_known hm FA
    dsimp only [kstB] at FB
    clear FA
    k_steps
    -- one.end_at(0)
    unfold Stop
    (try dsimp only [List.cons_append, List.nil_append])
    (rename News _ _ _ _ => NB)
    refine' end_ok (ps := runs zs) ?q1 ?q2 ?q3 (swap2 NB) ?q5 ?q6 ?q7 ?q8 ?q9 ?q10 ?q11 ?q12 ?q13 ?_
    case q1 => k_asm
    case q2 => k_asm
    case q3 => k_asm
    case q5 => k_asm
    case q6 => exact rfl
    case q7 =>
      refine fun p hp b hb => ?_
      cases List.mem_singleton.mp hb
      rcases List.mem_cons.mp hp with rfl | hp
      · exact haS
      · rcases List.mem_cons.mp hp with rfl | hp
        · exact hLd
        · exact off p hp _ (.tail _ (.head _))
    case q8 => k_mem
    case q9 => k_mem
    case q10 => exact hD.mono fun p hp => .tail _ (.tail _ hp)
    case q11 => exact Nat.lt_of_le_of_lt (runs_len zs) hlen
    case q12 => ktr_room
    case q13 => ktr_units
    intro r4 rv4 nr4 add4 ha tka hne4 hr4 hR4 FC NC0
    have NC := permB NC0
    clear NC0 NB
    rw [cut_end hpw hbd] at hR4
    have offC : OwnOff (add4 ++ rest) [aS, dI, s₁.heap.objs.size + 1] := off_add off fun b hb p hp => by
      simp only [List.mem_cons, List.not_mem_nil, or_false] at hb
      rcases hb with rfl | rfl | rfl
      · exact hne4 _ (.tail _ (.head _)) p hp
      · exact hne4 _ (.head _) p hp
      · exact hne4 _ (.tail _ (.tail _ (.head _))) p hp
    (try k_fold)
    k_steps
    -- one.is_whole()
    unfold Stop
    (try dsimp only [List.cons_append, List.nil_append])
    refine' whole_use (v := true) ?u1 ?u2 ?u3 ?u4 ?u5 ?u6 ?u7 ?u8 ?u9 hR4 ?u11 rfl ?u13 ?u14 ?_
    case u1 => k_asm
    case u2 => k_asm
    case u3 => k_asm
    case u4 => k_asm
    case u5 => k_asm
    case u6 => exact rfl
    case u7 => k_mem
    case u8 => k_mem
    case u9 => k_mem
    case u11 => kqd_sub
    case u13 => ktr_room
    case u14 => ktr_units
    intro hb' tkb FD ND
    (try k_fold)
    k_steps
    -- one.fill(0, most)
    unfold Stop
    (try dsimp only [List.cons_append, List.nil_append])
    refine' fill_use2 (ps := []) ?a1 ?a2 ?a3 ?a4 ?a5 ?a6 ?a7 ?a8 ?a9 ?a10 ?a11 ?a12 ?a15 ?a16 ?a17 ?_
    case a1 => k_asm
    case a2 => k_asm
    case a3 => k_asm
    case a4 => k_asm
    case a5 => k_asm
    case a6 => exact rfl
    case a7 => k_mem
    case a8 => k_updF
    case a9 => exact off _ hx _ (.tail _ (.head _))
    case a10 => k_mem
    case a11 => exact offC _ (List.mem_append.mpr (.inl hr4)) _ (.tail _ (.head _))
    case a12 => exact hR4.mono fun p hp => .tail _ (.tail _ (.tail _ (List.mem_append.mpr (.inl hp))))
    case a15 => decide
    case a16 => ktr_room
    case a17 => ktr_units
    intro f5 fv5 nf5 r5 rv5 nr5 add5 hc' tkc hlt5 hf5 hr5 hF5 hR5 FE NE
    have hF6 : DatAll add5 fv5 ([] : List Dat) := hF5
    clear hF5 hR5 hR4
    (try dsimp only at NE)
    (try k_fold)
    k_steps)
end Mine

theorem PySem.Challenge.cw_on0332_01_holds : PySem.Challenge.rw_on0332_01.Holds :=
  Mine.main_ok
