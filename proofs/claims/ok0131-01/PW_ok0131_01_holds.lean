import PyProof.Rows.All
import Wide.All
import OpenK.AllK
import Wide.FinOn
import Lean
import PySem.Challenge.RW_ok0131_01
open PySem PySem.W PyProof.Rows
set_option Elab.async false
set_option rowWalk.seconds 0
set_option maxRecDepth 100000
set_option compiler.extract_closed false
set_option linter.all false
section
open PySem PySem.W PyProof.Rows
namespace Mine
set_option maxRecDepth 100000 in
set_option maxHeartbeats 8000000 in
open_top hd for PySem.Challenge.rw_ok0131_01
end Mine

end
section
open PySem PySem.W PyProof.Rows PySem.Spec PySem.Calls
namespace Mine
section
variable {prog : Program} {w : World} {A₀ A : Around} {s : Shared} {base h₀ : Heap} {outer : List Env} {L : Addr} {m : Str → Option Value} {env : Env} {K : Frag} {p : Program} {loose : List Str} {mean : ExcName → Option Value} {mg mb : Str → Option Value}
  {R : Result → Shared → Prop} {name qual : Str} {params : Arguments} {body : List Stmt} {scope : Scope} {dV kV doc pm cdv ct oc : Value} {an od : Option Addr} {osl : Array (Option Value)} {f : Addr} {args : Args} {binds : List (Str × Value)}

/-- a def is entered; all that stands stays -/
theorem code_pure (B : Below A₀ base outer h₀) (F : Fr h₀ L s.heap m) (X : K.In s.heap) (T : Top p loose mean mg mb s.heap) (hA : A.frames = some (env :: outer)) (hf : env.frame = some L) (hke : env.scope.kind = .function)
    (ho : K.lookup f = some ⟨oc, od, .func (fnOf name qual params body scope dV kV doc pm an cdv ct), osl⟩) (hcd : codeIn K cdv qual = true) (hroom : A.depth < recursionLimit)
    (hbind : BindsTo s (fnOf name qual params body scope dV kV doc pm an cdv ct) args binds) (hloc : ∀ y ∈ binds, scope.names.lookup y.1 = some .local)
    (h : ∀ L' h₁, Fr s.heap L' h₁ (fun y => binds.reverse.lookup y) → News s.heap L' h₁ [] → Below A base (env :: outer) s.heap → K.In s.heap → Top p loose mean mg mb s.heap →
      wpAny (model prog w) (A.deeper (envOf qual scope L' f cdv)) (execs body (envOf qual scope L' f cdv))
        (fun fl s' => R (.ok (.ret (match fl with | .ret v => v | _ => .none))) s')
        (fun e s' => wpAny (model prog w) (A.deeper (envOf qual scope L' f cdv)) (leaving (envOf qual scope L' f cdv) e) (fun _ s'' => R (.error e) s'') (fun e' s'' => R (.error e') s'') s')
        { s with heap := h₁, toks := s.toks + binds.length })
    (hco : scope.isCoroutine = false) (hgen : scope.isGenerator = false) (hk : scope.kind = .function)
    (hcell : ∀ x ∈ scope.names, x.2 ≠ .cell) : codeAny (model prog w) A (.call (.ref f) args) R s := by
  obtain ⟨_, BG, _, _⟩ := groundX (R := R) B F (News.nil) hA hf hke
  refine codeAny_call_def (fd := fnOf name qual params body scope dV kV doc pm an cdv ct) (body := body) (binds := binds) hroom (X _ _ ho) rfl T.nolimit (codeRec_of X hcd) rfl hbind hcell hloc (fun h₁ hns hk₁ => ?_) hco hgen hk
  exact h _ h₁ ⟨hns, hk₁, Nat.le_refl _⟩ News.nil BG X T
end

/-- a call that changes nothing that stands -/
abbrev Pur (w : World) (mean : ExcName → Option Value) (mg mb : Str → Option Value) (f : Addr) (vs : List Value) (lv : Nat) (Pre : Heap → Prop) (Out : Value → List (Addr × Obj) → Prop) : Prop :=
  ∀ (dp un : Nat) (gd : Option (List Code)) (cn : Str) (cs : Scope) (a : Addr) (ccd : Value) (cl : List (Str × Addr)) (outer : List Env) (A₀ : Around) (base h₀ : Heap) (L : Addr) (m : Str → Option Value) (s : Shared) (Q E : Value → Shared → Prop),
    Below A₀ base outer h₀ → Fr h₀ L s.heap m → (Mine.hd.heap_39 w.params).In s.heap → Top Mine.hd.view_39 (looseW Mine.hd.view_39 []) mean mg mb s.heap → cs.kind = .function → dp + lv < recursionLimit → un + 16 * lv < cLine → Pre s.heap →
    (∀ r tl h' tk, s.heap.StaysIn h' → (∀ p ∈ tl, h'.get? p.1 = some p.2 ∧ s.heap.get? p.1 = none) → Out r tl → Q r { s with heap := h', toks := tk }) →
    wpAny (model PySem.Challenge.rw_ok0131_01.row.prog w) (ktrTop dp un gd cn cs L a ccd cl outer) (call (.ref f) vs) Q E s

theorem pur_use {w : World} {mean : ExcName → Option Value} {mg mb : Str → Option Value} {f : Addr} {vs : List Value} {lv : Nat} {Pre : Heap → Prop} {Out : Value → List (Addr × Obj) → Prop}
    {dp un : Nat} {gd : Option (List Code)} {cn : Str} {cs : Scope} {a : Addr} {ccd : Value} {cl : List (Str × Addr)} {outer : List Env} {A₀ : Around} {base h₀ : Heap} {L : Addr} {m : Str → Option Value} {news : List (Addr × Obj)} {s : Shared} {Q E : Value → Shared → Prop}
    (C : Pur w mean mg mb f vs lv Pre Out) (B : Below A₀ base outer h₀) (F : Fr h₀ L s.heap m) (X : (Mine.hd.heap_39 w.params).In h₀) (N : News h₀ L s.heap news) (T : Top Mine.hd.view_39 (looseW Mine.hd.view_39 []) mean mg mb h₀) (hk : cs.kind = .function)
    (hd : dp + lv < recursionLimit) (hu : un + 16 * lv < cLine) (hp : Pre s.heap)
    (ret : ∀ r tl h' tk, Fr h₀ L h' m → News h₀ L h' (tl ++ news) → (∀ q ∈ tl, ∀ p ∈ news, p.1 ≠ q.1) → Out r tl → Q r { s with heap := h', toks := tk }) :
    wpAny (model PySem.Challenge.rw_ok0131_01.row.prog w) (ktrTop dp un gd cn cs L a ccd cl outer) (call (.ref f) vs) Q E s := by
  refine C _ _ _ _ _ _ _ _ _ _ _ _ _ _ _ _ _ B F (X.keeps F.keep) (T.keeps F.keep) hk hd hu hp fun r tl h' tk hs ht ho => ?_
  refine ret r tl h' tk (F.grownK hs) (fun q hq => ?_) (fun q hq p hp e => ?_) ho
  · rcases List.mem_append.mp hq with h | h
    · obtain ⟨h1, h2⟩ := ht q h
      refine ⟨h1, fun e => ?_, F.noneBack h2⟩
      obtain ⟨oL, es, ep, hL, _⟩ := F.ns
      rw [e, hL] at h2; cases h2
    · exact ⟨hs _ _ (N q h).1, (N q h).2⟩
  · have h2 := (ht q hq).2
    rw [← e, (N p hp).1] at h2; cases h2

noncomputable def AllNe (d : Addr) : List (Addr × Obj) → Prop
  | [] => True
  | p :: r => @Ne Nat p.1 d ∧ AllNe d r
theorem allNe_of {d : Addr} : ∀ {l : List (Addr × Obj)}, (∀ p ∈ l, p.1 ≠ d) → AllNe d l
  | [], _ => trivial
  | p :: _, h => ⟨h p (.head _), allNe_of fun q hq => h q (.tail _ hq)⟩
theorem ne_one {a : Addr} {o : Obj} {l news : List (Addr × Obj)} (h : ∀ q ∈ (a, o) :: l, ∀ p ∈ news, p.1 ≠ q.1) : AllNe a news := allNe_of (h _ (.head _))
end Mine

end
section
open PySem PyProof.Rows
namespace Mine
structure SB (a₀ : Array Keyed) (st : SortSt) : Prop where
  perm : (arrOf st).Perm a₀
  kind : kindOf st = oneType'
  failed : failedOf st = none
theorem SB.size {a₀ : Array Keyed} {st : SortSt} (h : SB a₀ st) : (arrOf st).size = a₀.size := h.perm.size_eq
theorem SB.setArr {a₀ : Array Keyed} {st : SortSt} (h : SB a₀ st) {xs : Array Keyed} (hp : xs.Perm (arrOf st)) : SB a₀ (setArr st xs) := ⟨hp.trans h.perm, h.kind, h.failed⟩
noncomputable def IsInt (p : Keyed) : Prop := ∃ n t, p.1 = .int n t
theorem SB.item {a₀ : Array Keyed} {st : SortSt} (h : SB a₀ st) (h0 : IntKeys a₀) {i : Nat} (hi : i < a₀.size) : ∃ p, (arrOf st)[i]? = some p ∧ IsInt p := by
  have hi' : i < (arrOf st).size := by rw [h.size]; exact hi
  exact ⟨_, getElem?_pos _ i hi', h0 _ ((Array.perm_iff_toList_perm.mp h.perm).mem_iff.mp (by simp))⟩
theorem K_of {xs : Array Keyed} {i : Nat} {p : Keyed} (h : xs[i]? = some p) : K xs i = numOf p.1 := by unfold K; rw [h]
noncomputable def Srt (xs : Array Keyed) (i j : Nat) : Prop := ∀ p q, i ≤ p → p ≤ q → q < j → K xs p ≤ K xs q
structure Kept (a₀ : Array Keyed) (lo hi : Nat) (st st' : SortSt) : Prop where
  base : SB a₀ st'
  pend : pendingOf st' = pendingOf st
  out : ∀ i, i < lo ∨ hi ≤ i → K (arrOf st') i = K (arrOf st) i
theorem Kept.refl {a₀ : Array Keyed} {lo hi : Nat} {st : SortSt} (h : SB a₀ st) : Kept a₀ lo hi st st := ⟨h, rfl, fun _ _ => rfl⟩
theorem Kept.trans {a₀ : Array Keyed} {lo hi : Nat} {s1 s2 s3 : SortSt} (h : Kept a₀ lo hi s1 s2) (h' : Kept a₀ lo hi s2 s3) : Kept a₀ lo hi s1 s3 :=
  ⟨h'.base, h'.pend.trans h.pend, fun i hi => (h'.out i hi).trans (h.out i hi)⟩
theorem Kept.wide {a₀ : Array Keyed} {lo hi lo' hi' : Nat} {s1 s2 : SortSt} (h : Kept a₀ lo hi s1 s2) (h1 : lo' ≤ lo) (h2 : hi ≤ hi') : Kept a₀ lo' hi' s1 s2 :=
  ⟨h.base, h.pend, fun i hi => h.out i (by omega)⟩
theorem Srt.far {a₀ : Array Keyed} {lo hi i j : Nat} {s1 s2 : SortSt} (h : Kept a₀ lo hi s1 s2) (hs : Srt (arrOf s1) i j) (ho : j ≤ lo ∨ hi ≤ i) : Srt (arrOf s2) i j := by
  intro p q h1 h2 h3
  rw [h.out p (by omega), h.out q (by omega)]
  exact hs p q h1 h2 h3
section
variable {prog : Program} {w : World} {A : Around} {E : Value → Shared → Prop} {s : Shared} {a₀ : Array Keyed}
theorem wpS_lt {st : SortSt} {x y : Keyed} {Q : Option Bool → SortSt → Prop} (hk : kindOf st = oneType') (hx : IsInt x) (hy : IsInt y)
    (h : Q (some (decide (numOf x.1 < numOf y.1))) st) : wpS (model prog w) A E s (lt' x y) Q st := by
  obtain ⟨a, t, ea⟩ := hx
  obtain ⟨b, u, eb⟩ := hy
  rw [lt'_eq]
  refine wpS_bind (wpS_get ?_)
  rw [hk, keyLt'_oneType, ea, eb]
  refine wpS_bind (wpS_lift (wpAny_attempt (oneLt_int ⟨rfl, ?_⟩)))
  rw [ea, eb] at h
  exact wpS_pure h
theorem wpS_elem {st : SortSt} {xs : Array Keyed} {i : Nat} {p : Keyed} {Q : Keyed → SortSt → Prop} (hi : xs[i]? = some p) (h : Q p st) : wpS (model prog w) A E s (elem' xs i) Q st := by
  rw [elem'_eq, hi]
  exact wpS_pure h
theorem wpS_ltI {st : SortSt} {i j : Nat} {Q : Option Bool → SortSt → Prop} (hB : SB a₀ st) (h0 : IntKeys a₀) (hi : i < a₀.size) (hj : j < a₀.size)
    (h : Q (some (decide (K (arrOf st) i < K (arrOf st) j))) st) : wpS (model prog w) A E s (ltAt' i j) Q st := by
  obtain ⟨p, e1, i1⟩ := hB.item h0 hi
  obtain ⟨q, e2, i2⟩ := hB.item h0 hj
  rw [K_of e1, K_of e2] at h
  rw [ltAt'_eq]
  refine wpS_bind (wpS_get ?_)
  exact wpS_bind (wpS_elem e1 (wpS_bind (wpS_elem e2 (wpS_lt hB.kind i1 i2 h))))

theorem wpS_binS {st : SortSt} {lo n ok : Nat} {Q : Bool → SortSt → Prop} (h0 : IntKeys a₀) (hn : lo + n ≤ a₀.size) (hok : ok ≤ n) (hB : SB a₀ st) (hs : Srt (arrOf st) lo (lo + ok))
    (h : ∀ st', Kept a₀ lo (lo + n) st st' → Srt (arrOf st') lo (lo + n) → Q true st') : wpS (model prog w) A E s (binarySort' lo n ok) Q st := by
  rw [binarySort'_eq]
  refine wpS_bind (wpS_mono (wpS_forRange (I := fun k c st' => c = (none, ()) ∧ Kept a₀ lo (lo + n) st st' ∧ Srt (arrOf st') lo (lo + min k n))
    (Q := fun c st' => c = (none, ()) ∧ Kept a₀ lo (lo + n) st st' ∧ Srt (arrOf st') lo (lo + n)) ?step ?fin ?init) ?post)
  case post =>
    rintro c st' ⟨rfl, hB', hs'⟩
    exact wpS_pure (h st' hB' hs')
  case init =>
    refine ⟨rfl, .refl hB, fun i j hi hij hj => ?_⟩
    by_cases h1 : i = j
    · subst h1; exact Int.le_refl _
    · exact hs i j hi hij (by omega)
  case fin =>
    rintro c st' ⟨hc, hB', hs'⟩
    refine ⟨hc, hB', ?_⟩
    rwa [show min (max (max ok 1) n) n = n by omega] at hs'
  case step =>
    rintro k c st' hak hkn ⟨rfl, hB', hs'⟩
    rw [show min k n = k by lia] at hs'
    have hk : lo + k < a₀.size := by omega
    refine wpS_bind (wpS_mono (wpS_forRange (I := fun x c st'' => st'' = st' ∧ ∃ l r, c = (none, l, r) ∧ l ≤ r ∧ r ≤ k ∧ r - l ≤ k - x ∧
        (∀ i, lo ≤ i → i < lo + l → K (arrOf st') i ≤ K (arrOf st') (lo + k)) ∧ (∀ i, lo + r ≤ i → i < lo + k → K (arrOf st') (lo + k) < K (arrOf st') i))
      (Q := fun c st'' => st'' = st' ∧ ∃ l r, c = (none, l, r) ∧ l ≤ k ∧
        (∀ i, lo ≤ i → i < lo + l → K (arrOf st') i ≤ K (arrOf st') (lo + k)) ∧ (∀ i, lo + l ≤ i → i < lo + k → K (arrOf st') (lo + k) < K (arrOf st') i)) ?istep ?ifin ?iinit) ?ipost)
    case iinit => exact ⟨rfl, 0, k, rfl, by lia, by lia, by lia, fun i h1 h2 => by omega, fun i h1 h2 => by omega⟩
    case ifin =>
      rintro c st'' ⟨rfl, l, r, rfl, hlr, hrk, hm, hlo, hhi⟩
      have : l = r := by grind
      subst this
      exact ⟨rfl, l, l, rfl, hrk, hlo, hhi⟩
    case istep =>
      rintro x c st'' _ hxk ⟨rfl, l, r, rfl, hlr, hrk, hm, hlo, hhi⟩
      dsimp only
      by_cases hge : l ≥ r
      · rw [if_pos hge]
        have : l = r := by lia
        subst this
        exact wpS_pure ⟨rfl, l, l, rfl, hrk, hlo, hhi⟩
      · rw [if_neg hge]
        refine wpS_bind (wpS_ltI hB'.base h0 hk (by omega) ?_)
        by_cases hless : K (arrOf st'') (lo + k) < K (arrOf st'') (lo + (l + r) / 2)
        · simp only [hless, decide_true, if_true]
          refine wpS_pure ⟨rfl, l, (l + r) / 2, rfl, by omega, by omega, by omega, hlo, fun i h1 h2 => ?_⟩
          exact Int.lt_of_lt_of_le hless (hs' _ _ (by lia) h1 h2)
        · simp only [hless, decide_false, Bool.false_eq_true, if_false]
          refine wpS_pure ⟨rfl, (l + r) / 2 + 1, r, rfl, by omega, by omega, by omega, fun i h1 h2 => ?_, hhi⟩
          exact Int.le_trans (hs' i (lo + (l + r) / 2) h1 (by lia) (by lia)) (Int.not_lt.mp hless)
    case ipost =>
      rintro c st'' ⟨rfl, l, r, rfl, hlk, hlo, hhi⟩
      show wpS _ _ _ _ (do moveDown' (lo + k) (lo + l); pure (ForInStep.yield (none, ()))) _ _
      rw [moveDown'_eq]
      have hks : lo + k < (arrOf st'').size := by rw [hB'.base.size]; exact hk
      have kb : ∀ i, K (bubble (arrOf st'') (lo + k) (lo + k - (lo + l))) i = if i = lo + l then K (arrOf st'') (lo + k) else if lo + l < i ∧ i ≤ lo + k then K (arrOf st'') (i - 1) else K (arrOf st'') i := by
        intro i
        rw [K_bubble hks (by omega), show lo + k - (lo + k - (lo + l)) = lo + l by omega]
      refine wpS_bind (wpS_modify (wpS_pure ⟨rfl, hB'.trans ⟨hB'.base.setArr (bubble_perm _ _ _), rfl, fun i hi => ?_⟩, ?_⟩))
      · refine (kb i).trans ?_
        rw [if_neg (by lia), if_neg (by lia)]
      · rw [show min (k + 1) n = k + 1 by lia]
        intro i j hi hij hj
        show K (bubble (arrOf st'') (lo + k) (lo + k - (lo + l))) i ≤ K (bubble (arrOf st'') (lo + k) (lo + k - (lo + l))) j
        rw [kb, kb]
        repeat' split
        all_goals first
          | (exfalso; lia)
          | exact Int.le_refl _
          | exact hlo _ (by omega) (by lia)
          | exact Int.le_of_lt (hhi _ (by omega) (by omega))
          | exact hs' _ _ (by omega) (by omega) (by omega)
end
end Mine

end
section
open PySem PyProof.Rows
namespace Mine
noncomputable def Dec (xs : Array Keyed) (i j : Nat) : Prop := ∀ p q, i ≤ p → p ≤ q → q < j → K xs q ≤ K xs p
section
variable {prog : Program} {w : World} {A : Around} {E : Value → Shared → Prop} {s : Shared} {a₀ : Array Keyed}
theorem Srt.push {xs : Array Keyed} {lo n : Nat} (h1 : 1 ≤ n) (hs : Srt xs lo (lo + n)) (h : ¬ K xs (lo + n) < K xs (lo + n - 1)) : Srt xs lo (lo + (n + 1)) := by
  intro p q a b c
  by_cases hq : q < lo + n
  · exact hs p q a b hq
  · obtain rfl : q = lo + n := by omega
    by_cases hp : p = lo + n
    · subst hp; exact Int.le_refl _
    · exact Int.le_trans (hs p (lo + n - 1) a (by omega) (by omega)) (Int.not_lt.mp h)
theorem Dec.push {xs : Array Keyed} {lo n : Nat} (h1 : 1 ≤ n) (hs : Dec xs lo (lo + n)) (h : K xs (lo + n) ≤ K xs (lo + n - 1)) : Dec xs lo (lo + (n + 1)) := by
  intro p q a b c
  by_cases hq : q < lo + n
  · exact hs p q a b hq
  · obtain rfl : q = lo + n := by omega
    by_cases hp : p = lo + n
    · subst hp; exact Int.le_refl _
    · exact Int.le_trans h (hs p (lo + n - 1) a (by omega) (by omega))
theorem Dec.congr {xs ys : Array Keyed} {i j : Nat} (h : Dec xs i j) (e : ∀ k, K ys k = K xs k) : Dec ys i j := fun p q a b c => by rw [e, e]; exact h p q a b c
theorem Srt.congr {xs ys : Array Keyed} {i j : Nat} (h : Srt xs i j) (e : ∀ k, K ys k = K xs k) : Srt ys i j := fun p q a b c => by rw [e, e]; exact h p q a b c
/-- the loop that looks how far it goes up, from place a on -/
theorem wpS_up {st : SortSt} {lo a nrem : Nat} {f : Nat → Option (Option Nat) × Nat → StateT SortSt Sem (ForInStep (Option (Option Nat) × Nat))} {Q : Option (Option Nat) × Nat → SortSt → Prop}
    (h0 : IntKeys a₀) (hn : lo + nrem ≤ a₀.size) (ha : 1 ≤ a) (han : a ≤ nrem) (hB : SB a₀ st) (hs : Srt (arrOf st) lo (lo + a))
    (hf : ∀ x c, f x c = (do
      let r ← ltAt' (lo + c.2) (lo + c.2 - 1)
      match r with
      | some b => if b = true then pure (ForInStep.done (none, c.2)) else pure (ForInStep.yield (none, c.2 + 1))
      | none => pure (ForInStep.done (some none, c.2))))
    (h : ∀ n, a ≤ n → n ≤ nrem → Srt (arrOf st) lo (lo + n) → (n = nrem ∨ K (arrOf st) (lo + n) < K (arrOf st) (lo + n - 1)) → Q (none, n) st) :
    wpS (model prog w) A E s (forIn [a:nrem] (none, a) f) Q st := by
  refine wpS_forRange (I := fun x c st' => st' = st ∧ c = (none, x) ∧ Srt (arrOf st) lo (lo + x)) ?step ?fin ⟨rfl, rfl, hs⟩
  case fin =>
    rintro c st' ⟨rfl, rfl, hs'⟩
    rw [show max a nrem = nrem by lia] at hs' ⊢
    exact h nrem han (Nat.le_refl _) hs' (.inl rfl)
  case step =>
    rintro x c st' hax hxn ⟨rfl, rfl, hs'⟩
    rw [hf]
    refine wpS_bind (wpS_ltI hB h0 (by omega) (by omega) ?_)
    dsimp only
    by_cases hless : K (arrOf st') (lo + x) < K (arrOf st') (lo + x - 1)
    · simp only [hless, decide_true, if_true]
      exact wpS_pure (h x hax (by lia) hs' (.inr hless))
    · simp only [hless, decide_false, Bool.false_eq_true, if_false]
      exact wpS_pure ⟨rfl, rfl, hs'.push (by omega) hless⟩
theorem wpS_rev {st : SortSt} {i j : Nat} {Q : Unit → SortSt → Prop} (h : Q () (setArr st (mirror (arrOf st) i j ((j - i) / 2)))) :
    wpS (model prog w) A E s (reverseSlice' i j) Q st := by
  rw [reverseSlice'_eq]; exact wpS_modify h
theorem Kept.same {lo hi i j : Nat} {st : SortSt} (hB : SB a₀ st) (hj : j ≤ a₀.size) (he : ∀ k, i ≤ k → k < j → K (arrOf st) k = K (arrOf st) (j - 1)) : Kept a₀ lo hi st (setArr st (mirror (arrOf st) i j ((j - i) / 2))) :=
  ⟨hB.setArr (mirror_perm _ _ _ _), rfl, fun k _ => K_mirror_equal (by rw [hB.size]; exact hj) he k⟩
theorem Kept.turn {lo hi i j : Nat} {st : SortSt} (hB : SB a₀ st) (hj : j ≤ a₀.size) (h1 : lo ≤ i) (h2 : j ≤ hi) : Kept a₀ lo hi st (setArr st (mirror (arrOf st) i j ((j - i) / 2))) :=
  ⟨hB.setArr (mirror_perm _ _ _ _), rfl, fun k hk => by
    refine (K_mirror (by rw [hB.size]; exact hj) k).trans ?_
    rw [if_neg (by lia)]⟩
theorem Dec.turn {lo n : Nat} {st : SortSt} (hB : SB a₀ st) (hn : lo + n ≤ a₀.size) (h : Dec (arrOf st) lo (lo + n)) : Srt (arrOf (setArr st (mirror (arrOf st) lo (lo + n) ((lo + n - lo) / 2)))) lo (lo + n) := by
  intro p q a b c
  have hz : lo + n ≤ (arrOf st).size := by rw [hB.size]; exact hn
  show K (mirror (arrOf st) lo (lo + n) ((lo + n - lo) / 2)) p ≤ K (mirror (arrOf st) lo (lo + n) ((lo + n - lo) / 2)) q
  rw [K_mirror hz, K_mirror hz, if_pos (by omega), if_pos (by omega)]
  exact h _ _ (by omega) (by omega) (by omega)
theorem wpS_down {st : SortSt} {lo n nrem : Nat} {f : Nat → Option (Option Nat) × Nat × Nat → StateT SortSt Sem (ForInStep (Option (Option Nat) × Nat × Nat))} {Q : Option (Option Nat) × Nat × Nat → SortSt → Prop}
    (h0 : IntKeys a₀) (hn : lo + nrem ≤ a₀.size) (h1 : 1 ≤ n) (hnn : n ≤ nrem) (hB : SB a₀ st) (hs : Dec (arrOf st) lo (lo + n))
    (hf : ∀ x c, f x c = (ltAt' (lo + c.2.1) (lo + c.2.1 - 1) >>= fun r =>
      match r with
      | some b => (if b = true then (if c.2.2 > 0 then (reverseSlice' (lo + c.2.1 - (c.2.2 + 1)) (lo + c.2.1) >>= fun _ => pure (ForInStep.yield (none, c.2.1 + 1, 0))) else pure (ForInStep.yield (none, c.2.1 + 1, 0)))
        else (ltAt' (lo + c.2.1 - 1) (lo + c.2.1) >>= fun r =>
          match r with
          | some b => if b = true then pure (ForInStep.done (none, c.2.1, c.2.2)) else pure (ForInStep.yield (none, c.2.1 + 1, c.2.2 + 1))
          | none => pure (ForInStep.done (some none, c.2.1, c.2.2))))
      | none => pure (ForInStep.done (some none, c.2.1, c.2.2))))
    (h : ∀ m neq st', Kept a₀ lo (lo + nrem) st st' → n ≤ m → m ≤ nrem → Dec (arrOf st') lo (lo + m) → neq + 1 ≤ m → (∀ i, lo + m - (neq + 1) ≤ i → i < lo + m → K (arrOf st') i = K (arrOf st') (lo + m - 1)) → Q (none, m, neq) st') :
    wpS (model prog w) A E s (forIn [n:nrem] (none, n, 0) f) Q st := by
  refine wpS_forRange (I := fun x c st' => ∃ neq, c = (none, x, neq) ∧ Kept a₀ lo (lo + nrem) st st' ∧ Dec (arrOf st') lo (lo + x) ∧ neq + 1 ≤ x ∧
      (∀ i, lo + x - (neq + 1) ≤ i → i < lo + x → K (arrOf st') i = K (arrOf st') (lo + x - 1))) ?step ?fin ⟨0, rfl, .refl hB, hs, by omega, fun i h1 h2 => by congr 1; lia⟩
  case fin =>
    rintro c st' ⟨neq, rfl, hB', hs', hq, he⟩
    rw [show max n nrem = nrem by lia] at hs' hq he ⊢
    exact h nrem neq st' hB' hnn (Nat.le_refl _) hs' hq he
  case step =>
    rintro x c st' hax hxn ⟨neq, rfl, hB', hs', hq, he⟩
    rw [hf]
    dsimp only
    refine wpS_bind (wpS_ltI hB'.base h0 (by omega) (by omega) ?_)
    dsimp only
    by_cases hless : K (arrOf st') (lo + x) < K (arrOf st') (lo + x - 1)
    · simp only [hless, decide_true, if_true]
      have hd := hs'.push (by omega) (Int.le_of_lt hless)
      by_cases hneq : neq > 0
      · rw [if_pos hneq]
        have hk : Kept a₀ lo (lo + nrem) st' _ := Kept.same hB'.base (by omega) he
        refine wpS_bind (wpS_rev (wpS_pure ⟨0, rfl, hB'.trans hk, hd.congr fun k => ?_, by omega, fun i h1 h2 => by congr 1; omega⟩))
        exact K_mirror_equal (by rw [hB'.base.size]; omega) he k
      · rw [if_neg hneq]
        exact wpS_pure ⟨0, rfl, hB', hd, by omega, fun i h1 h2 => by congr 1; omega⟩
    · simp only [hless, decide_false, Bool.false_eq_true, if_false]
      refine wpS_bind (wpS_ltI hB'.base h0 (by omega) (by omega) ?_)
      dsimp only
      by_cases hlarger : K (arrOf st') (lo + x - 1) < K (arrOf st') (lo + x)
      · simp only [hlarger, decide_true, if_true]
        exact wpS_pure (h x neq st' hB' hax (by lia) hs' hq he)
      · simp only [hlarger, decide_false, Bool.false_eq_true, if_false]
        have heqx : K (arrOf st') (lo + x) = K (arrOf st') (lo + x - 1) := by omega
        refine wpS_pure ⟨neq + 1, rfl, hB', hs'.push (by omega) (by omega), by lia, fun i h1 h2 => ?_⟩
        rw [show lo + (x + 1) - 1 = lo + x by lia]
        by_cases hix : i = lo + x
        · subst hix; rfl
        · rw [heqx]; exact he i (by lia) (by lia)
theorem wpS_countS {st : SortSt} {lo nrem : Nat} {Q : Option Nat → SortSt → Prop} (h0 : IntKeys a₀) (hn : lo + nrem ≤ a₀.size) (h1 : 1 ≤ nrem) (hB : SB a₀ st)
    (h : ∀ m st', Kept a₀ lo (lo + nrem) st st' → 1 ≤ m → m ≤ nrem → Srt (arrOf st') lo (lo + m) → Q (some m) st') :
    wpS (model prog w) A E s (countRun' lo nrem) Q st := by
  rw [countRun'_eq]
  refine wpS_bind (wpS_up h0 hn (Nat.le_refl 1) h1 hB (fun i j a b c => Int.le_of_eq (by congr 1; lia)) (fun x c => ?_) fun n hn1 hn2 hsn hor => ?_)
  · dsimp only; congr 1; funext r; cases r <;> rfl
  · dsimp only
    by_cases hnn : n = nrem
    · rw [if_pos (by simpa using hnn)]
      exact wpS_pure (h n st (.refl hB) hn1 hn2 hsn)
    rw [if_neg (by simpa using hnn)]
    have hlt := hor.resolve_left hnn
    by_cases hgt : n > 1
    rw [if_pos hgt]
    refine wpS_bind (wpS_ltI hB h0 (by omega) (by omega) ?_)
    dsimp only
    by_cases hrose : K (arrOf st) lo < K (arrOf st) (lo + n - 1)
    · simp only [hrose, decide_true, if_true]
      exact wpS_pure (h n st (.refl hB) hn1 hn2 hsn)
    rw [if_neg (by simpa using hrose)]
    have hall : ∀ k, lo ≤ k → k < lo + n → K (arrOf st) k = K (arrOf st) (lo + n - 1) := by
      intro k h1 hk
      have a1 := hsn lo k (Nat.le_refl _) h1 hk
      have a2 := hsn k (lo + n - 1) h1 (by omega) (by omega)
      lia
    have hk1 : Kept a₀ lo (lo + nrem) st _ := Kept.same hB (by omega) hall
    refine wpS_bind (wpS_rev ?_)
    have hd1 : Dec (arrOf (setArr st (mirror (arrOf st) lo (lo + n) ((lo + n - lo) / 2)))) lo (lo + (n + 1)) := by
      refine Dec.congr ?_ fun k => K_mirror_equal (by rw [hB.size]; omega) hall k
      refine Dec.push hn1 (fun p q a b c => ?_) (by omega)
      rw [hall p a (by omega), hall q (by omega) c]
      exact Int.le_refl _
    rotate_left
    rw [if_neg hgt]
    have hk1 : Kept a₀ lo (lo + nrem) st st := .refl hB
    have hd1 : Dec (arrOf st) lo (lo + (n + 1)) := by
      refine Dec.push hn1 (fun p q a b c => ?_) (by omega)
      obtain rfl : p = q := by lia
      exact Int.le_refl _
    all_goals (
      refine wpS_bind (wpS_lift (wpAny_rule ⟨rfl, ?_⟩))
      refine wpS_bind (wpS_down h0 hn (by lia) (by lia) hk1.base hd1 (fun x c => ?_) fun m neq st2 hk2 hm1 hm2 hd2 hq he => ?_)
      · (try dsimp only)
        congr 1; funext r
        cases r with
        | none => rfl
        | some b =>
          dsimp only
          split
          · rfl
          · congr 1; funext r; cases r <;> rfl
      dsimp only
      by_cases hneq : neq > 0
      rw [if_pos hneq]
      refine wpS_bind (wpS_rev ?_)
      have hk3 : Kept a₀ lo (lo + nrem) st2 _ := Kept.same hk2.base (by omega) he
      have hd3 := hd2.congr (ys := mirror (arrOf st2) _ _ _) fun k => K_mirror_equal (by rw [hk2.base.size]; omega) he k
      rotate_left
      rw [if_neg hneq]
      have hk3 : Kept a₀ lo (lo + nrem) st2 st2 := .refl hk2.base
      have hd3 := hd2
      all_goals (
        refine wpS_bind (wpS_rev ?_)
        have hk4 := Kept.turn (lo := lo) (hi := lo + nrem) hk3.base (show lo + m ≤ a₀.size by omega) (Nat.le_refl _) (by lia)
        refine wpS_bind (wpS_up h0 hn (by omega) hm2 hk4.base (Dec.turn hk3.base (by omega) hd3) (fun x c => ?_) fun m' hm1' hm2' hs4 _ => ?_)
        · (try dsimp only); congr 1; funext r; cases r <;> rfl
        · exact wpS_pure (h m' _ (((hk1.trans hk2).trans hk3).trans hk4) (by omega) hm2' hs4)))
end
end Mine

end
section
open PySem PyProof.Rows
namespace Mine
noncomputable def gallop' : Bool → Keyed → Array Keyed → Nat → Nat → Nat → StateT SortSt Sem (Option Nat) := sortPriv% PySem.Builtin.gallop
section
variable {prog : Program} {w : World} {A : Around} {E : Value → Shared → Prop} {s : Shared} {a₀ : Array Keyed}
abbrev Before (left : Bool) (key : Int) (arr : Array Keyed) (base i : Nat) : Prop := if left = true then K arr (base + i) < key else K arr (base + i) ≤ key
theorem wpS_beyond {st : SortSt} {left : Bool} {key : Keyed} {arr : Array Keyed} {base n i : Nat} {Q : Option Bool → SortSt → Prop} (hk : kindOf st = oneType') (hkey : IsInt key)
    (harr : ∀ p, p ∈ arr.toList → IsInt p) (hn : base + n ≤ arr.size) (hi : i < n) (h : Q (some (decide (Before left (numOf key.1) arr base i))) st) :
    wpS (model prog w) A E s (elem' arr (base + i) >>= fun x => if left = true then lt' x key else (lt' key x >>= fun o => pure (o.map (fun b => !b)))) Q st := by
  have hb : base + i < arr.size := by omega
  have e : arr[base + i]? = some arr[base + i] := getElem?_pos arr _ hb
  have hx : IsInt arr[base + i] := harr _ (by simp)
  refine wpS_bind (wpS_elem e ?_)
  cases left with
  | true =>
    rw [if_pos rfl]
    refine wpS_lt hk hx hkey ?_
    rwa [decide_eq_decide.mpr (by unfold Before; rw [if_pos rfl, K_of e] : Before true (numOf key.1) arr base i ↔ numOf (arr[base + i]).1 < numOf key.1)] at h
  | false =>
    rw [decide_eq_decide.mpr (by unfold Before; rw [if_neg (by decide), K_of e] : Before false (numOf key.1) arr base i ↔ numOf (arr[base + i]).1 ≤ numOf key.1)] at h
    rw [if_neg (by decide)]
    refine wpS_bind (wpS_lt hk hkey hx (wpS_pure ?_))
    have e2 : (!decide (numOf key.1 < numOf (arr[base + i]).1)) = decide (numOf (arr[base + i]).1 ≤ numOf key.1) := by
      by_cases hc : numOf key.1 < numOf (arr[base + i]).1
      · simp [hc]
      · simp [hc, Int.not_lt.mp hc]
    simp only [Option.map_some, e2]
    exact h
theorem Before.mono {left : Bool} {key : Int} {arr : Array Keyed} {base n i j : Nat} (hs : Srt arr base (base + n)) (hij : i ≤ j) (hj : j < n) (h : Before left key arr base j) : Before left key arr base i := by
  have := hs (base + i) (base + j) (by lia) (by omega) (by omega)
  unfold Before at *
  split
  · rename_i hl
    rw [if_pos hl] at h
    exact Int.lt_of_le_of_lt this h
  · rename_i hl
    rw [if_neg hl] at h
    exact Int.le_trans this h
theorem wpS_jp2 {α X Y : Type} {Q : α → SortSt → Prop} {st : SortSt} {t : StateT SortSt Sem α} (H : X → Y → Prop) (T : X → Y → StateT SortSt Sem α) (main : (∀ x y, H x y → wpS (model prog w) A E s (T x y) Q st) → wpS (model prog w) A E s t Q st)
    (key : ∀ x y, H x y → wpS (model prog w) A E s (T x y) Q st) : wpS (model prog w) A E s t Q st := main key
theorem wpS_gallop {st : SortSt} {left : Bool} {key : Keyed} {arr : Array Keyed} {base n hint : Nat} {Q : Option Nat → SortSt → Prop} (hk : kindOf st = oneType') (hkey : IsInt key)
    (harr : ∀ p, p ∈ arr.toList → IsInt p) (hn : base + n ≤ arr.size) (hh : hint < n) (hs : Srt arr base (base + n))
    (h : ∀ r, r ≤ n → (∀ i, i < r → Before left (numOf key.1) arr base i) → (∀ i, r ≤ i → i < n → ¬ Before left (numOf key.1) arr base i) → Q (some r) st) :
    wpS (model prog w) A E s (gallop' left key arr base n hint) Q st := by
  with_unfolding_all refine wpS_bind ?_
  refine wpS_beyond hk hkey harr hn hh ?_
  dsimp only
  have up := fun i j (a : i ≤ j) (b : j < n) => Before.mono (left := left) (key := numOf key.1) hs a b
  refine' wpS_jp2 (X := Nat) (Y := Nat) (fun lo hi => (lo ≤ hi ∧ hi ≤ n) ∧ (∀ i, i < lo → Before left (numOf key.1) arr base i) ∧ ∀ i, hi ≤ i → i < n → ¬ Before left (numOf key.1) arr base i) _ (fun go => ?_) ?_
  rotate_left
  · by_cases hr : Before left (numOf key.1) arr base hint
    · rw [if_pos (decide_eq_true hr)]
      refine wpS_bind (wpS_mono (wpS_forRange (I := fun x c st' => st' = st ∧ ∃ l o, c = (none, l, o) ∧ x + 1 ≤ o ∧ l < o ∧ hint + l < n ∧ Before left (numOf key.1) arr base (hint + l))
        (Q := fun c st' => st' = st ∧ ∃ l o, c = (none, l, o) ∧ l < o ∧ hint + l < n ∧ Before left (numOf key.1) arr base (hint + l) ∧ (n ≤ hint + o ∨ ¬ Before left (numOf key.1) arr base (hint + o))) ?step ?fin ⟨rfl, 0, 1, rfl, Nat.le_refl _, Nat.one_pos, hh, hr⟩) ?post)
      case fin =>
        rintro c st' ⟨hst, l, o, rfl, h1, h2, h3, h4⟩
        exact ⟨hst, l, o, rfl, h2, h3, h4, .inl (by lia)⟩
      case step =>
        clear go
        rintro x c st' _ hx ⟨hst, l, o, rfl, h1, h2, h3, h4⟩
        rw [hst]
        dsimp only
        by_cases hge : o ≥ n - hint
        · rw [if_pos hge]
          exact wpS_pure ⟨rfl, l, o, rfl, h2, h3, h4, .inl (by omega)⟩
        · rw [if_neg hge]
          refine wpS_bind (wpS_beyond hk hkey harr hn (by omega) ?_)
          dsimp only
          by_cases hm : Before left (numOf key.1) arr base (hint + o)
          · rw [if_neg (by rw [decide_eq_true hm]; decide)]
            exact wpS_pure ⟨rfl, o, 2 * o + 1, rfl, by omega, by omega, by omega, hm⟩
          · rw [if_pos (by rw [decide_eq_false hm]; rfl)]
            exact wpS_pure ⟨rfl, l, o, rfl, h2, h3, h4, .inr hm⟩
      case post =>
        rintro c st' ⟨hst, l, o, rfl, h2, h3, h4, h5⟩
        have a1 : (hint + l + 1 ≤ hint + min o (n - hint) ∧ hint + min o (n - hint) ≤ n) ∧ (∀ i, i < hint + l + 1 → Before left (numOf key.1) arr base i) ∧ ∀ i, hint + min o (n - hint) ≤ i → i < n → ¬ Before left (numOf key.1) arr base i := by
          refine ⟨⟨by lia, by omega⟩, fun i hi => up i (hint + l) (Nat.le_of_lt_succ hi) h3 h4, fun i hi hn' hb => ?_⟩
          rcases h5 with h5 | h5
          · omega
          · exact h5 (up (hint + o) i (by omega) hn' hb)
        clear h2 h3 h4 h5
        rw [hst]
        dsimp only
        revert a1
        generalize hint + l + 1 = lo0
        generalize hint + min o (n - hint) = hi0
        exact go lo0 hi0
    · rw [if_neg (by rw [decide_eq_false hr]; exact Bool.false_ne_true)]
      refine wpS_bind (wpS_mono (wpS_forRange (I := fun x c st' => st' = st ∧ ∃ l o, c = (none, l, o) ∧ x + 1 ≤ o ∧ l < o ∧ l ≤ hint ∧ ¬ Before left (numOf key.1) arr base (hint - l))
        (Q := fun c st' => st' = st ∧ ∃ l o, c = (none, l, o) ∧ l < o ∧ l ≤ hint ∧ ¬ Before left (numOf key.1) arr base (hint - l) ∧ (hint + 1 ≤ o ∨ Before left (numOf key.1) arr base (hint - o))) ?step2 ?fin2 ⟨rfl, 0, 1, rfl, Nat.le_refl _, Nat.one_pos, Nat.zero_le _, hr⟩) ?post2)
      case fin2 =>
        rintro c st' ⟨hst, l, o, rfl, h1, h2, h3, h4⟩
        exact ⟨hst, l, o, rfl, h2, h3, h4, .inl (by omega)⟩
      case step2 =>
        clear go
        rintro x c st' _ hx ⟨hst, l, o, rfl, h1, h2, h3, h4⟩
        rw [hst]
        dsimp only
        by_cases hge : o ≥ hint + 1
        · rw [if_pos hge]
          exact wpS_pure ⟨rfl, l, o, rfl, h2, h3, h4, .inl hge⟩
        · rw [if_neg hge]
          refine wpS_bind (wpS_beyond hk hkey harr hn (by omega) ?_)
          dsimp only
          by_cases hm : Before left (numOf key.1) arr base (hint - o)
          · rw [if_pos (decide_eq_true hm)]
            exact wpS_pure ⟨rfl, l, o, rfl, h2, h3, h4, .inr hm⟩
          · rw [if_neg (by rw [decide_eq_false hm]; exact Bool.false_ne_true)]
            exact wpS_pure ⟨rfl, o, 2 * o + 1, rfl, by omega, by omega, by lia, hm⟩
      case post2 =>
        rintro c st' ⟨hst, l, o, rfl, h2, h3, h4, h5⟩
        have a1 : (hint + 1 - min o (hint + 1) ≤ hint - l ∧ hint - l ≤ n) ∧ (∀ i, i < hint + 1 - min o (hint + 1) → Before left (numOf key.1) arr base i) ∧ ∀ i, hint - l ≤ i → i < n → ¬ Before left (numOf key.1) arr base i := by
          refine ⟨⟨by omega, by omega⟩, fun i hi => ?_, fun i hi hn' hb => h4 (up (hint - l) i hi hn' hb)⟩
          rcases h5 with h5 | h5
          · omega
          · exact up i (hint - o) (by omega) (by omega) h5
        clear h2 h3 h4 h5
        rw [hst]
        dsimp only
        revert a1
        generalize hint + 1 - min o (hint + 1) = lo0
        generalize hint - l = hi0
        exact go lo0 hi0
  intro lo0 hi0 a0
  refine wpS_bind (wpS_mono (wpS_forRange (I := fun x c st'' => st'' = st ∧ ∃ lo hi, c = (none, lo, hi) ∧ hi - lo ≤ n - x ∧ (lo ≤ hi ∧ hi ≤ n) ∧ (∀ i, i < lo → Before left (numOf key.1) arr base i) ∧ (∀ i, hi ≤ i → i < n → ¬ Before left (numOf key.1) arr base i))
    (Q := fun c st'' => st'' = st ∧ ∃ hi, c = (none, hi, hi) ∧ hi ≤ n ∧ (∀ i, i < hi → Before left (numOf key.1) arr base i) ∧ (∀ i, hi ≤ i → i < n → ¬ Before left (numOf key.1) arr base i)) (fun x c st'' _ hx => ?_) (fun c st'' => ?_) ⟨rfl, lo0, hi0, rfl, by have := a0.1; omega, a0⟩) (fun c st'' => ?_))
  · rintro ⟨hst, lo, hi, rfl, b3, ⟨b1, b2⟩, b4, b5⟩
    rw [hst]
    dsimp only
    by_cases hge : lo ≥ hi
    · rw [if_pos hge]
      obtain rfl : lo = hi := Nat.le_antisymm b1 hge
      exact wpS_pure ⟨rfl, lo, rfl, b2, b4, b5⟩
    · rw [if_neg hge]
      refine wpS_bind (wpS_beyond hk hkey harr hn (by omega) ?_)
      dsimp only
      by_cases hm : Before left (numOf key.1) arr base (lo + (hi - lo) / 2)
      · rw [if_pos (decide_eq_true hm)]
        exact wpS_pure ⟨rfl, _, hi, rfl, by omega, ⟨by omega, b2⟩, fun i hi' => up i _ (Nat.le_of_lt_succ hi') (by omega) hm, b5⟩
      · rw [if_neg (by rw [decide_eq_false hm]; exact Bool.false_ne_true)]
        exact wpS_pure ⟨rfl, lo, _, rfl, by omega, ⟨Nat.le_add_right _ _, by omega⟩, b4, fun i h1 h2 hb => hm (up _ i h1 h2 hb)⟩
  · rintro ⟨hst, lo, hi, rfl, b3, ⟨b1, b2⟩, b4, b5⟩
    obtain rfl : lo = hi := by grind
    exact ⟨hst, lo, rfl, b2, b4, b5⟩
  · rintro ⟨hst, hi, rfl, b2, b4, b5⟩
    rw [hst]
    exact wpS_pure (h hi b2 b4 b5)
end
end Mine

end
section
open PySem PyProof.Rows
namespace Mine
noncomputable def mergeLo' : Array Keyed → Array Keyed → StateT SortSt Sem (Array Keyed) := sortPriv% PySem.Builtin.mergeLo
noncomputable def mergeHi' : Array Keyed → Array Keyed → StateT SortSt Sem (Array Keyed) := sortPriv% PySem.Builtin.mergeHi
noncomputable def Le (x y : Keyed) : Prop := numOf x.1 ≤ numOf y.1
structure Mrg (A B : Array Keyed) (l : List Keyed) (ia ib : Nat) : Prop where
  perm : l.Perm (A.toList.take ia ++ B.toList.take ib)
  srt : l.Pairwise Le
  leA : ∀ x ∈ l, ∀ i, ia ≤ i → i < A.size → numOf x.1 ≤ K A i
  leB : ∀ x ∈ l, ∀ i, ib ≤ i → i < B.size → numOf x.1 ≤ K B i
theorem at_toList {A : Array Keyed} {i : Nat} {p : Keyed} (e : A[i]? = some p) : A.toList[i]? = some p := by rw [Array.getElem?_toList]; exact e
theorem Mrg.pushB {A B : Array Keyed} {l : List Keyed} {ia ib : Nat} {p : Keyed} (h : Mrg A B l ia ib) (sB : Srt B 0 B.size) (e : B[ib]? = some p) (hb : ib < B.size)
    (hle : ∀ i, ia ≤ i → i < A.size → K B ib ≤ K A i) : Mrg A B (l ++ [p]) ia (ib + 1) := by
  have ep := K_of e
  refine ⟨?_, ?_, ?_, ?_⟩
  · rw [List.take_add_one, at_toList e, ← List.append_assoc]
    exact h.perm.append_right [p]
  · refine List.pairwise_append.mpr ⟨h.srt, List.pairwise_singleton _ _, fun x hx y hy => ?_⟩
    cases List.mem_singleton.mp hy
    have := h.leB x hx ib (Nat.le_refl _) hb
    unfold Le
    omega
  · intro x hx i h1 h2
    rcases List.mem_append.mp hx with hx | hx
    · exact h.leA x hx i h1 h2
    · cases List.mem_singleton.mp hx
      rw [← ep]
      exact hle i h1 h2
  · intro x hx i h1 h2
    rcases List.mem_append.mp hx with hx | hx
    · exact h.leB x hx i (by omega) h2
    · cases List.mem_singleton.mp hx
      rw [← ep]
      exact sB ib i (Nat.zero_le _) (by omega) h2
theorem Mrg.pushA {A B : Array Keyed} {l : List Keyed} {ia ib : Nat} {p : Keyed} (h : Mrg A B l ia ib) (sA : Srt A 0 A.size) (e : A[ia]? = some p) (ha : ia < A.size)
    (hle : ∀ i, ib ≤ i → i < B.size → K A ia ≤ K B i) : Mrg A B (l ++ [p]) (ia + 1) ib := by
  have ep := K_of e
  refine ⟨?_, ?_, ?_, ?_⟩
  · rw [List.take_add_one, at_toList e]
    refine (h.perm.append_right [p]).trans ?_
    rw [List.append_assoc, List.append_assoc]
    exact List.Perm.append_left _ List.perm_append_comm
  · refine List.pairwise_append.mpr ⟨h.srt, List.pairwise_singleton _ _, fun x hx y hy => ?_⟩
    cases List.mem_singleton.mp hy
    have := h.leA x hx ia (Nat.le_refl _) ha
    unfold Le
    omega
  · intro x hx i h1 h2
    rcases List.mem_append.mp hx with hx | hx
    · exact h.leA x hx i (by omega) h2
    · cases List.mem_singleton.mp hx
      rw [← ep]
      exact sA ia i (Nat.zero_le _) (by omega) h2
  · intro x hx i h1 h2
    rcases List.mem_append.mp hx with hx | hx
    · exact h.leB x hx i h1 h2
    · cases List.mem_singleton.mp hx
      rw [← ep]
      exact hle i h1 h2
theorem item_of {A : Array Keyed} {i : Nat} (h : i < A.size) : A[i]? = some A[i] := getElem?_pos A i h
theorem drop_take_succ {A : Array Keyed} {i k : Nat} (h : i + k < A.size) : (A.toList.drop i).take (k + 1) = (A.toList.drop i).take k ++ [A[i + k]] := by
  rw [List.take_add_one, List.getElem?_drop, at_toList (item_of h)]
  rfl
theorem Mrg.appB {A B : Array Keyed} {l : List Keyed} {ia ib : Nat} (h : Mrg A B l ia ib) (sB : Srt B 0 B.size) : ∀ (k : Nat), ib + k ≤ B.size →
    (∀ j, ib ≤ j → j < ib + k → ∀ i, ia ≤ i → i < A.size → K B j ≤ K A i) → Mrg A B (l ++ (B.toList.drop ib).take k) ia (ib + k)
  | 0, _, _ => by simpa using h
  | k + 1, hk, hle => by
    have ih := h.appB sB k (by omega) fun j a b => hle j a (by omega)
    rw [drop_take_succ (by omega), ← List.append_assoc]
    exact ih.pushB sB (item_of (by omega)) (by omega) (hle (ib + k) (by omega) (by omega))
theorem Mrg.appA {A B : Array Keyed} {l : List Keyed} {ia ib : Nat} (h : Mrg A B l ia ib) (sA : Srt A 0 A.size) : ∀ (k : Nat), ia + k ≤ A.size →
    (∀ j, ia ≤ j → j < ia + k → ∀ i, ib ≤ i → i < B.size → K A j ≤ K B i) → Mrg A B (l ++ (A.toList.drop ia).take k) (ia + k) ib
  | 0, _, _ => by simpa using h
  | k + 1, hk, hle => by
    have ih := h.appA sA k (by omega) fun j a b => hle j a (by omega)
    rw [drop_take_succ (by omega), ← List.append_assoc]
    exact ih.pushA sA (item_of (by omega)) (by omega) (hle (ia + k) (by omega) (by omega))
/-- what a merge gives back -/
structure Mgd (A B out : Array Keyed) : Prop where
  perm : out.toList.Perm (A.toList ++ B.toList)
  srt : out.toList.Pairwise Le
theorem Mrg.end {A B : Array Keyed} {out : Array Keyed} (h : Mrg A B out.toList A.size B.size) : Mgd A B out := by
  refine ⟨?_, h.srt⟩
  have := h.perm
  rwa [List.take_of_length_le (by simp), List.take_of_length_le (by simp)] at this
theorem Mrg.doneA {A B out : Array Keyed} {ia ib : Nat} (h : Mrg A B out.toList ia ib) (sA : Srt A 0 A.size) (ha : ia ≤ A.size) (e : ib = B.size) : Mgd A B (out ++ A.extract ia A.size ++ B.extract ib B.size) := by
  subst e
  refine Mrg.end ?_
  have := h.appA sA (A.size - ia) (by omega) (fun j a b i c d => by omega)
  rw [show ia + (A.size - ia) = A.size by omega] at this
  simpa using this
theorem Mrg.doneB {A B out : Array Keyed} {ia ib : Nat} (h : Mrg A B out.toList ia ib) (sB : Srt B 0 B.size) (e : ia = A.size) (hb : ib ≤ B.size) : Mgd A B (out ++ A.extract ia A.size ++ B.extract ib B.size) := by
  subst e
  refine Mrg.end ?_
  have := h.appB sB (B.size - ib) (by omega) (fun j a b i c d => by omega)
  rw [show ib + (B.size - ib) = B.size by omega] at this
  simpa using this
theorem Mrg.last {A B out : Array Keyed} {ia ib : Nat} (h : Mrg A B out.toList ia ib) (sA : Srt A 0 A.size) (sB : Srt B 0 B.size) (ha : ia + 1 = A.size) (hb : ib ≤ B.size) (hl : ∀ j, j < B.size → K B j ≤ K A (A.size - 1)) :
    Mgd A B (out ++ B.extract ib B.size ++ A.extract ia A.size) := by
  refine Mrg.end ?_
  have h1 := h.appB sB (B.size - ib) (by omega) (fun j a b i c d => by
    obtain rfl : i = A.size - 1 := by omega
    exact hl j (by lia))
  rw [show ib + (B.size - ib) = B.size by omega] at h1
  have := h1.appA sA (A.size - ia) (by omega) (fun j a b i c d => by omega)
  rw [show ia + (A.size - ia) = A.size by lia] at this
  simpa using this
structure Only (st st' : SortSt) : Prop where
  arr : arrOf st' = arrOf st
  kind : kindOf st' = kindOf st
  pend : pendingOf st' = pendingOf st
  failed : failedOf st' = failedOf st
theorem Only.refl (st : SortSt) : Only st st := ⟨rfl, rfl, rfl, rfl⟩
theorem Only.trans {s1 s2 s3 : SortSt} (h : Only s1 s2) (h' : Only s2 s3) : Only s1 s3 := ⟨h'.arr.trans h.arr, h'.kind.trans h.kind, h'.pend.trans h.pend, h'.failed.trans h.failed⟩
noncomputable def setMinGallop' : Nat → StateT SortSt Sem Unit := sortPriv% PySem.Builtin.setMinGallop
theorem Srt.part {A : Array Keyed} {i j : Nat} (h : Srt A 0 A.size) (hj : j ≤ A.size) : Srt A i j := fun p q a b c => h p q (by lia) b (by omega)
theorem before_f {k : Int} {A : Array Keyed} {i j : Nat} : Before false k A i j ↔ K A (i + j) ≤ k := by unfold Before; rw [if_neg (by decide)]
theorem before_t {k : Int} {A : Array Keyed} {i j : Nat} : Before true k A i j ↔ K A (i + j) < k := by unfold Before; rw [if_pos rfl]
section
variable {prog : Program} {w : World} {A : Around} {E : Value → Shared → Prop} {s : Shared} {a₀ : Array Keyed}
theorem wpS_setG {st : SortSt} {g : Nat} {Q : Unit → SortSt → Prop} (h : ∀ st', Only st st' → Q () st') : wpS (model prog w) A E s (setMinGallop' g) Q st := by
  with_unfolding_all refine wpS_modify ?_
  exact h _ ⟨rfl, rfl, rfl, rfl⟩
/-- how many of a come before key, found by leaps -/
theorem wpS_galF {st : SortSt} {key : Keyed} {arr : Array Keyed} {base hint : Nat} {Q : Option Nat → SortSt → Prop} (hk : kindOf st = oneType') (hkey : IsInt key)
    (harr : ∀ p, p ∈ arr.toList → IsInt p) (n : Nat) (hn : base + n ≤ arr.size) (hh : hint < n) (hs : Srt arr 0 arr.size)
    (h : ∀ r, r ≤ n → (∀ i, base ≤ i → i < base + r → K arr i ≤ numOf key.1) → (∀ i, base + r ≤ i → i < base + n → numOf key.1 < K arr i) → Q (some r) st) :
    wpS (model prog w) A E s (gallop' false key arr base n hint) Q st := by
  refine wpS_gallop hk hkey harr hn hh (hs.part hn) fun r h1 h2 h3 => h r h1 (fun i a b => ?_) (fun i a b => ?_)
  · have := before_f.mp (h2 (i - base) (by omega))
    rwa [show base + (i - base) = i by omega] at this
  · have := h3 (i - base) (by omega) (by omega)
    rw [before_f, show base + (i - base) = i by omega] at this
    omega
theorem wpS_galT {st : SortSt} {key : Keyed} {arr : Array Keyed} {base hint : Nat} {Q : Option Nat → SortSt → Prop} (hk : kindOf st = oneType') (hkey : IsInt key)
    (harr : ∀ p, p ∈ arr.toList → IsInt p) (n : Nat) (hn : base + n ≤ arr.size) (hh : hint < n) (hs : Srt arr 0 arr.size)
    (h : ∀ r, r ≤ n → (∀ i, base ≤ i → i < base + r → K arr i < numOf key.1) → (∀ i, base + r ≤ i → i < base + n → numOf key.1 ≤ K arr i) → Q (some r) st) :
    wpS (model prog w) A E s (gallop' true key arr base n hint) Q st := by
  refine wpS_gallop hk hkey harr hn hh (hs.part hn) fun r h1 h2 h3 => h r h1 (fun i a b => ?_) (fun i a b => ?_)
  · have := before_t.mp (h2 (i - base) (by omega))
    rwa [show base + (i - base) = i by omega] at this
  · have := h3 (i - base) (by omega) (by omega)
    rw [before_t, show base + (i - base) = i by omega] at this
    omega
theorem Mrg.extA {A B out : Array Keyed} {ia ib k : Nat} (h : Mrg A B out.toList ia ib) (sA : Srt A 0 A.size) (hk : ia + k ≤ A.size)
    (hle : ∀ j, ia ≤ j → j < ia + k → ∀ i, ib ≤ i → i < B.size → K A j ≤ K B i) : Mrg A B (out ++ A.extract ia (ia + k)).toList (ia + k) ib := by
  have := h.appA sA k hk hle
  rwa [Array.toList_append, Array.toList_extract, List.extract_eq_take_drop, Nat.add_sub_cancel_left]
theorem Mrg.extB {A B out : Array Keyed} {ia ib k : Nat} (h : Mrg A B out.toList ia ib) (sB : Srt B 0 B.size) (hk : ib + k ≤ B.size)
    (hle : ∀ j, ib ≤ j → j < ib + k → ∀ i, ia ≤ i → i < A.size → K B j ≤ K A i) : Mrg A B (out ++ B.extract ib (ib + k)).toList ia (ib + k) := by
  have := h.appB sB k hk hle
  rwa [Array.toList_append, Array.toList_extract, List.extract_eq_take_drop, Nat.add_sub_cancel_left]
theorem Mrg.putA {A B out : Array Keyed} {ia ib : Nat} (h : Mrg A B out.toList ia ib) (sA : Srt A 0 A.size) (ha : ia < A.size)
    (hle : ∀ i, ib ≤ i → i < B.size → K A ia ≤ K B i) : Mrg A B (out.push A[ia]).toList (ia + 1) ib := by
  rw [Array.toList_push]
  exact h.pushA sA (item_of ha) ha hle
theorem Mrg.putB {A B out : Array Keyed} {ia ib : Nat} (h : Mrg A B out.toList ia ib) (sB : Srt B 0 B.size) (hb : ib < B.size)
    (hle : ∀ i, ia ≤ i → i < A.size → K B ib ≤ K A i) : Mrg A B (out.push B[ib]).toList ia (ib + 1) := by
  rw [Array.toList_push]
  exact h.pushB sB (item_of hb) hb hle
theorem wpS_jp1 {α X : Type} {Q : α → SortSt → Prop} {st : SortSt} {t : StateT SortSt Sem α} (T : X → StateT SortSt Sem α) (main : (∀ x, wpS (model prog w) A E s (T x) Q st) → wpS (model prog w) A E s t Q st)
    (key : ∀ x, wpS (model prog w) A E s (T x) Q st) : wpS (model prog w) A E s t Q st := main key
theorem ex4 {α β γ δ ε : Type} {F : β → γ → δ → ε → α} {p : β → γ → δ → ε → Prop} {o : Prop} {P : α → Prop} (k : o → ∀ x y z u, p x y z u → P (F x y z u)) : ∀ c, (o ∧ ∃ x y z u, c = F x y z u ∧ p x y z u) → P c := by
  intro c h
  obtain ⟨ho, x, y, z, u, rfl, hp⟩ := h
  exact k ho x y z u hp
theorem ex5 {α β γ δ ε ζ : Type} {F : β → γ → δ → ε → ζ → α} {p : β → γ → δ → ε → ζ → Prop} {o : Prop} {P : α → Prop} (k : o → ∀ x y z u v, p x y z u v → P (F x y z u v)) : ∀ c, (o ∧ ∃ x y z u v, c = F x y z u v ∧ p x y z u v) → P c := by
  intro c h
  obtain ⟨ho, x, y, z, u, v, rfl, hp⟩ := h
  exact k ho x y z u v hp
theorem ex6 {α β γ δ ε ζ η : Type} {F : β → γ → δ → ε → ζ → η → α} {p : β → γ → δ → ε → ζ → η → Prop} {o : Prop} {P : α → Prop} (k : o → ∀ x y z u v w, p x y z u v w → P (F x y z u v w)) : ∀ c, (o ∧ ∃ x y z u v w, c = F x y z u v w ∧ p x y z u v w) → P c := by
  intro c h
  obtain ⟨ho, x, y, z, u, v, w, rfl, hp⟩ := h
  exact k ho x y z u v w hp
theorem exR {α κ τ : Type} {G : κ → τ → α} {q : κ → Prop} {o : Prop} {P : α → Prop} (k : o → ∀ r t, q r → P (G r t)) : ∀ c, (o ∧ ∃ r t, c = G r t ∧ q r) → P c := by
  intro c h
  obtain ⟨ho, r, t, rfl, hq⟩ := h
  exact k ho r t hq
theorem or_two {o x y G : Prop} (h : o ∧ (x ∨ y)) (k1 : o ∧ x → G) (k2 : o ∧ y → G) : G := h.2.elim (fun a => k1 ⟨h.1, a⟩) fun b => k2 ⟨h.1, b⟩
structure LoI (a b : Array Keyed) (n : Nat) (out : Array Keyed) (ia ib : Nat) : Prop where
  m : Mrg a b out.toList ia ib
  la : ia + 1 < a.size
  lb : ib < b.size
  le : n ≤ ia + ib
theorem wpS_mergeLo {st : SortSt} {a b : Array Keyed} {Q : Array Keyed → SortSt → Prop} (hk : kindOf st = oneType') (ka : ∀ p, p ∈ a.toList → IsInt p) (kb : ∀ p, p ∈ b.toList → IsInt p)
    (sa : Srt a 0 a.size) (sb : Srt b 0 b.size) (ha : 1 ≤ a.size) (hb : 1 ≤ b.size) (h0 : K b 0 ≤ K a 0) (hl : ∀ j, j < b.size → K b j ≤ K a (a.size - 1))
    (h : ∀ out st', Only st st' → Mgd a b out → Q out st') : wpS (model prog w) A E s (mergeLo' a b) Q st := by
  with_unfolding_all refine wpS_bind ?_
  refine wpS_lift (wpAny_rule ⟨rfl, ?_⟩)
  dsimp only
  refine wpS_bind (wpS_elem (item_of hb) ?_)
  have m0 : Mrg a b (#[b[0]] : Array Keyed).toList 0 1 := Mrg.pushB (l := []) (ib := 0) ⟨.refl _, .nil, (fun _ h => nomatch h), fun _ h => nomatch h⟩ sb (item_of hb) hb (fun i _ hi => Int.le_trans h0 (sa 0 i (Nat.le_refl _) (Nat.zero_le _) hi))
  by_cases e1 : 1 = b.size
  · rw [if_pos (beq_iff_eq.mpr e1)]
    exact wpS_pure (h _ _ (.refl _) (m0.doneA sa (Nat.zero_le _) e1))
  rw [if_neg (fun q => e1 (beq_iff_eq.mp q))]
  by_cases e2 : 0 + 1 = a.size
  · rw [if_pos (beq_iff_eq.mpr e2)]
    exact wpS_pure (h _ _ (.refl _) (m0.last sa sb e2 hb hl))
  rw [if_neg (fun q => e2 (beq_iff_eq.mp q))]
  refine wpS_bind (wpS_get ?_)
  refine wpS_bind (wpS_mono (wpS_forRange (I := fun x c st' => Only st st' ∧ ∃ out ia ib g, c = (none, out, ia, ib, g) ∧ LoI a b (x + 1) out ia ib)
    (Q := fun c st' => Only st st' ∧ ∃ r t, c = (some r, t) ∧ Mgd a b r) ?step ?fin ⟨.refl _, _, 0, 1, _, rfl, m0, by lia, by lia, by lia⟩) ?post)
  case fin =>
    rintro c st' ⟨_, out, ia, ib, g, rfl, h1, h2, h3, h4⟩
    lia
  case post =>
    intro c st' hc
    revert c
    refine exR fun ho r t hm => ?_
    exact wpS_pure (h r st' ho hm)
  case step =>
    intro x c st1 _ hx hc
    revert c
    refine ex4 fun ho out ia ib g i => ?_
    dsimp only
    clear m0 e1 e2 h h0
    refine wpS_bind (wpS_mono (wpS_forRange (I := fun y c st' => Only st st' ∧ ∃ out ia ib ac bc, c = (none, out, ia, ib, ac, bc) ∧ LoI a b (x + 1) out ia ib)
      (Q := fun c st' => Only st st' ∧ ((∃ out ia ib ac bc, c = (none, out, ia, ib, ac, bc) ∧ LoI a b (x + 1) out ia ib) ∨ ∃ r t, c = (some r, t) ∧ Mgd a b r))
      ?step1 ?fin1 ⟨ho, out, ia, ib, _, _, rfl, i⟩) ?post1)
    case fin1 => exact fun c st' hc => ⟨hc.1, .inl hc.2⟩
    case step1 =>
      clear i ho
      intro y c st2 _ hy hc
      revert c
      refine ex5 fun ho out ia ib ac bc i => ?_
      dsimp only
      have l1' := Nat.lt_of_succ_lt i.la
      refine wpS_bind (wpS_elem (item_of i.lb) ?_)
      refine wpS_bind (wpS_elem (item_of l1') ?_)
      refine wpS_bind (wpS_lt (ho.kind.trans hk) (kb _ (by simp)) (ka _ (by simp)) ?_)
      dsimp only
      rw [← K_of (item_of i.lb), ← K_of (item_of l1')]
      by_cases hw : K b ib < K a ia
      · rw [if_pos (decide_eq_true hw)]
        refine wpS_bind (wpS_elem (item_of i.lb) ?_)
        have m2 := i.m.putB sb i.lb (fun j a b => Int.le_trans (Int.le_of_lt hw) (sa ia j (Nat.zero_le _) a b))
        by_cases e : ib + 1 = b.size
        · rw [if_pos (beq_iff_eq.mpr e)]
          exact wpS_pure ⟨ho, .inr ⟨_, _, rfl, m2.doneA sa (Nat.le_of_lt l1') e⟩⟩
        rw [if_neg (fun q => e (beq_iff_eq.mp q))]
        have i2 : LoI a b (x + 1) (out.push (b[ib]'i.lb)) ia (ib + 1) := ⟨m2, i.la, Nat.lt_of_le_of_ne i.lb e, Nat.le_succ_of_le i.le⟩
        split
        · exact wpS_pure ⟨ho, .inl ⟨_, _, _, _, _, rfl, i2⟩⟩
        · exact wpS_pure ⟨ho, _, _, _, _, _, rfl, i2⟩
      · rw [if_neg (by rw [decide_eq_false hw]; exact Bool.false_ne_true)]
        refine wpS_bind (wpS_elem (item_of l1') ?_)
        have m2 := i.m.putA sa l1' (fun j a b => Int.le_trans (Int.not_lt.mp hw) (sb ib j (Nat.zero_le _) a b))
        by_cases e : ia + 1 + 1 = a.size
        · rw [if_pos (beq_iff_eq.mpr e)]
          exact wpS_pure ⟨ho, .inr ⟨_, _, rfl, m2.last sa sb e (Nat.le_of_lt i.lb) hl⟩⟩
        rw [if_neg (fun q => e (beq_iff_eq.mp q))]
        have i2 : LoI a b (x + 1) (out.push a[ia]) (ia + 1) ib := ⟨m2, Nat.lt_of_le_of_ne i.la e, i.lb, by have := i.le; lia⟩
        split
        · exact wpS_pure ⟨ho, .inl ⟨_, _, _, _, _, rfl, i2⟩⟩
        · exact wpS_pure ⟨ho, _, _, _, _, _, rfl, i2⟩
    case post1 =>
      clear i ho
      intro c st2 hc0
      refine or_two hc0 (fun hc => ?_) (fun hc => ?_)
      rotate_left
      · clear hc0
        revert c
        exact exR fun ho r t hm => wpS_pure ⟨ho, r, _, rfl, hm⟩
      clear hc0
      revert c
      refine ex5 fun ho out ia ib ac bc i => ?_
      dsimp only
      refine wpS_bind (wpS_lift (wpAny_rule ⟨rfl, ?_⟩))
      refine wpS_bind (wpS_mono (wpS_forRange (I := fun y c st' => Only st st' ∧ ∃ out ia ib g ac bc, c = (none, out, ia, ib, g, ac, bc) ∧ LoI a b (x + 1) out ia ib ∧ (y ≠ 0 → x + 2 ≤ ia + ib))
        (Q := fun c st' => Only st st' ∧ ((∃ out ia ib g ac bc, c = (none, out, ia, ib, g, ac, bc) ∧ LoI a b (x + 2) out ia ib) ∨ ∃ r t, c = (some r, t) ∧ Mgd a b r))
        ?step2 ?fin2 ⟨ho, out, ia, ib, _, _, _, rfl, i, fun e => absurd rfl e⟩) ?post2)
      case fin2 =>
        rintro c st' ⟨h1, out, ia, ib, g, ac, bc, e, i, h6⟩
        exact ⟨h1, .inl ⟨out, ia, ib, g, ac, bc, e, i.m, i.la, i.lb, h6 (by lia)⟩⟩
      case post2 =>
        intro c st' hc0
        refine or_two hc0 (fun hc => ?_) (fun hc => ?_)
        rotate_left
        · clear hc0
          revert c
          exact exR fun ho r t hm => wpS_pure ⟨ho, r, _, rfl, hm⟩
        clear hc0
        revert c
        refine ex6 fun ho out ia ib g ac bc i => ?_
        dsimp only
        exact wpS_bind (wpS_setG fun st3 h3 => wpS_pure ⟨ho.trans h3, _, _, _, _, rfl, i⟩)
      case step2 =>
        clear i ho
        intro y c st3 _ hy hc
        revert c
        refine ex6 fun ho out ia ib g ac bc i' => ?_
        dsimp only
        have i := i'.1
        clear i'
        refine' wpS_jp1 (X := Nat) _ (fun key => ?_) ?_
        rotate_left
        · by_cases hg : g > 1
          · rw [if_pos hg]
            generalize g - 1 = g'
            exact key g'
          · rw [if_neg hg]
            exact key g
        intro g'
        refine wpS_bind (wpS_setG fun st4 h4 => ?_)
        have ho4 := ho.trans h4
        clear ho h4
        refine wpS_bind (wpS_elem (item_of i.lb) ?_)
        refine wpS_bind (wpS_galF (ho4.kind.trans hk) (kb _ (by simp)) ka (a.size - ia) (by have := i.la; omega) (by have := i.la; omega) sa fun k k1 k2 k3 => ?_)
        rw [← K_of (item_of i.lb)] at k2 k3
        rw [show ia + (a.size - ia) = a.size by have := i.la; omega] at k3
        dsimp only
        refine' wpS_jp2 (X := Array Keyed) (Y := Nat) (fun o j => LoI a b (x + 1) o j ib ∧ ∀ q, j ≤ q → q < a.size → K b ib < K a q) _ (fun key => ?_) ?_
        rotate_left
        · by_cases hk0 : k > 0
          · have m1 := i.m.extA sa (by have := i.la; omega) (fun j x1 x2 q x3 x4 => Int.le_trans (k2 j x1 x2) (sb ib q (Nat.zero_le _) x3 x4)) (k := k)
            rw [if_pos hk0]
            have hle : ia ≤ ia + k := Nat.le_add_right _ _
            have hsz : ia + k ≤ a.size := by have := i.la; omega
            have k4 := k3
            revert hle hsz m1 k4
            generalize out ++ a.extract ia (ia + k) = out'
            generalize ia + k = ia'
            intro m1 hle hsz k4
            by_cases e1 : ia' + 1 = a.size
            · rw [if_pos (beq_iff_eq.mpr e1)]
              exact wpS_pure ⟨ho4, .inr ⟨_, _, rfl, m1.last sa sb e1 (Nat.le_of_lt i.lb) hl⟩⟩
            rw [if_neg (fun q => e1 (beq_iff_eq.mp q))]
            by_cases e2 : ia' = a.size
            · rw [if_pos (beq_iff_eq.mpr e2)]
              exact wpS_pure ⟨ho4, .inr ⟨_, _, rfl, m1.doneB sb e2 (Nat.le_of_lt i.lb)⟩⟩
            rw [if_neg (fun q => e2 (beq_iff_eq.mp q))]
            exact key out' ia' ⟨⟨m1, by lia, i.lb, Nat.le_trans i.le (Nat.add_le_add_right hle ib)⟩, k4⟩
          · rw [if_neg hk0]
            obtain rfl : k = 0 := by omega
            exact key out ia ⟨i, k3⟩
        clear k3 k2 k1 i
        intro out ia' n
        have i := n.1
        have k3 := n.2
        clear n
        refine wpS_bind (wpS_elem (item_of i.lb) ?_)
        have n2 := i.m.putB sb i.lb (fun j a b => Int.le_of_lt (k3 j a b))
        clear k3
        have l6 := Nat.lt_of_succ_lt i.la
        by_cases e3 : ib + 1 = b.size
        · rw [if_pos (beq_iff_eq.mpr e3)]
          exact wpS_pure ⟨ho4, .inr ⟨_, _, rfl, n2.doneA sa (Nat.le_of_lt l6) e3⟩⟩
        rw [if_neg (fun q => e3 (beq_iff_eq.mp q))]
        have lb2 := Nat.lt_of_le_of_ne i.lb e3
        have la := i.la
        have lx : x + 2 ≤ ia' + (ib + 1) := Nat.succ_le_succ i.le
        clear e3
        refine wpS_bind (wpS_elem (item_of l6) ?_)
        refine wpS_bind (wpS_galT (ho4.kind.trans hk) (ka _ (by simp)) kb (b.size - (ib + 1)) (by omega) (by omega) sb fun q q1 q2 q3 => ?_)
        rw [← K_of (item_of l6)] at q2 q3
        rw [show ib + 1 + (b.size - (ib + 1)) = b.size by omega] at q3
        dsimp only
        refine' wpS_jp2 (X := Array Keyed) (Y := Nat) (fun o j => LoI a b (x + 2) o ia' j ∧ ∀ q, j ≤ q → q < b.size → K a ia' ≤ K b q) _ (fun key => ?_) ?_
        rotate_left
        · by_cases hq0 : q > 0
          · have n3 := n2.extB sb (by omega) (fun j x1 x2 i x3 x4 => Int.le_trans (Int.le_of_lt (q2 j x1 x2)) (sa _ i (Nat.zero_le _) x3 x4)) (k := q)
            rw [if_pos hq0]
            have hle : ib + 1 ≤ ib + 1 + q := Nat.le_add_right _ _
            have hsz : ib + 1 + q ≤ b.size := by omega
            have q4 := q3
            revert hle hsz n3 q4
            generalize (out.push b[ib]) ++ b.extract (ib + 1) (ib + 1 + q) = out'
            generalize ib + 1 + q = ib'
            intro n3 hle hsz q4
            by_cases e4 : ib' = b.size
            · rw [if_pos (beq_iff_eq.mpr e4)]
              exact wpS_pure ⟨ho4, .inr ⟨_, _, rfl, n3.doneA sa (Nat.le_of_lt l6) e4⟩⟩
            rw [if_neg (fun q => e4 (beq_iff_eq.mp q))]
            exact key out' ib' ⟨⟨n3, la, Nat.lt_of_le_of_ne hsz e4, Nat.le_trans lx (Nat.add_le_add_left hle ia')⟩, q4⟩
          · rw [if_neg hq0]
            obtain rfl : q = 0 := by omega
            exact key _ _ ⟨⟨n2, la, lb2, lx⟩, q3⟩
        clear q3 q2 q1 n2 lb2 lx la
        intro out ib' n
        have i := n.1
        have q3 := n.2
        clear n
        refine wpS_bind (wpS_elem (item_of l6) ?_)
        have n5 := i.m.putA sa l6 q3
        split
        · rename_i e5
          exact wpS_pure ⟨ho4, .inr ⟨_, _, rfl, n5.last sa sb (beq_iff_eq.mp e5) (Nat.le_of_lt i.lb) hl⟩⟩
        · rename_i e5
          have i2 : LoI a b (x + 2) (out.push (a[ia']'l6)) (ia' + 1) ib' := ⟨n5, Nat.lt_of_le_of_ne i.la (fun q => e5 (beq_iff_eq.mpr q)), i.lb, by have := i.le; lia⟩
          split
          · exact wpS_pure ⟨ho4, .inl ⟨_, _, _, _, _, _, rfl, i2⟩⟩
          · exact wpS_pure ⟨ho4, _, _, _, _, _, _, rfl, ⟨i2.m, i2.la, i2.lb, Nat.le_of_succ_le i2.le⟩, fun _ => i2.le⟩
end
end Mine

end
section
open PySem PyProof.Rows
namespace Mine
structure MrgH (A B : Array Keyed) (l : List Keyed) (na nb : Nat) : Prop where
  perm : l.Perm (A.toList.drop na ++ B.toList.drop nb)
  srt : l.Pairwise Le
  geA : ∀ x ∈ l, ∀ i, i < na → i < A.size → K A i ≤ numOf x.1
  geB : ∀ x ∈ l, ∀ i, i < nb → i < B.size → K B i ≤ numOf x.1
theorem drop_cons {A : Array Keyed} {n : Nat} (h0 : 0 < n) (h : n - 1 < A.size) : A.toList.drop (n - 1) = A[n - 1] :: A.toList.drop n := by
  rw [List.drop_eq_getElem_cons (by simpa using h), show n - 1 + 1 = n by omega]
  rfl
theorem MrgH.consA {A B : Array Keyed} {l : List Keyed} {na nb : Nat} (h : MrgH A B l na nb) (sA : Srt A 0 A.size) (h0 : 0 < na) (h1 : na - 1 < A.size)
    (hle : ∀ i, i < nb → i < B.size → K B i ≤ K A (na - 1)) : MrgH A B (A[na - 1] :: l) (na - 1) nb := by
  have ep := K_of (item_of h1)
  refine ⟨?_, ?_, ?_, ?_⟩
  · rw [drop_cons h0 h1]
    exact h.perm.cons _
  · refine List.pairwise_cons.mpr ⟨fun y hy => ?_, h.srt⟩
    have := h.geA y hy (na - 1) (by omega) h1
    unfold Le
    omega
  · intro x hx i a b
    rcases List.mem_cons.mp hx with rfl | hx
    · rw [← ep]
      exact sA i (na - 1) (Nat.zero_le _) (by omega) h1
    · exact h.geA x hx i (by omega) b
  · intro x hx i a b
    rcases List.mem_cons.mp hx with rfl | hx
    · rw [← ep]
      exact hle i a b
    · exact h.geB x hx i a b
theorem MrgH.consB {A B : Array Keyed} {l : List Keyed} {na nb : Nat} (h : MrgH A B l na nb) (sB : Srt B 0 B.size) (h0 : 0 < nb) (h1 : nb - 1 < B.size)
    (hle : ∀ i, i < na → i < A.size → K A i ≤ K B (nb - 1)) : MrgH A B (B[nb - 1] :: l) na (nb - 1) := by
  have ep := K_of (item_of h1)
  refine ⟨?_, ?_, ?_, ?_⟩
  · rw [drop_cons h0 h1]
    exact (h.perm.cons _).trans List.perm_middle.symm
  · refine List.pairwise_cons.mpr ⟨fun y hy => ?_, h.srt⟩
    have := h.geB y hy (nb - 1) (by omega) h1
    unfold Le
    omega
  · intro x hx i a b
    rcases List.mem_cons.mp hx with rfl | hx
    · rw [← ep]
      exact hle i a b
    · exact h.geA x hx i a b
  · intro x hx i a b
    rcases List.mem_cons.mp hx with rfl | hx
    · rw [← ep]
      exact sB i (nb - 1) (Nat.zero_le _) (by omega) h1
    · exact h.geB x hx i (by omega) b
theorem take_cons {A : Array Keyed} {n k : Nat} (h0 : 0 < n) (h : n - 1 < A.size) : (A.toList.drop (n - 1)).take (k + 1) = A[n - 1] :: (A.toList.drop n).take k := by
  rw [drop_cons h0 h]
  rfl
theorem MrgH.appA {A B : Array Keyed} {l : List Keyed} {na nb : Nat} (h : MrgH A B l na nb) (sA : Srt A 0 A.size) (hA : na ≤ A.size) : ∀ (k : Nat), k ≤ na →
    (∀ j, na - k ≤ j → j < na → ∀ i, i < nb → i < B.size → K B i ≤ K A j) → MrgH A B ((A.toList.drop (na - k)).take k ++ l) (na - k) nb
  | 0, _, _ => by simpa using h
  | k + 1, hk, hle => by
    have ih := h.appA sA hA k (by omega) fun j a b => hle j (by omega) b
    have := ih.consA sA (by omega) (by omega) (hle _ (by omega) (by omega))
    rw [show na - (k + 1) = na - k - 1 by omega, take_cons (by omega) (by omega)]
    exact this
theorem MrgH.appB {A B : Array Keyed} {l : List Keyed} {na nb : Nat} (h : MrgH A B l na nb) (sB : Srt B 0 B.size) (hB : nb ≤ B.size) : ∀ (k : Nat), k ≤ nb →
    (∀ j, nb - k ≤ j → j < nb → ∀ i, i < na → i < A.size → K A i ≤ K B j) → MrgH A B ((B.toList.drop (nb - k)).take k ++ l) na (nb - k)
  | 0, _, _ => by simpa using h
  | k + 1, hk, hle => by
    have ih := h.appB sB hB k (by omega) fun j a b => hle j (by omega) b
    have := ih.consB sB (by omega) (by omega) (hle _ (by omega) (by omega))
    rw [show nb - (k + 1) = nb - k - 1 by omega, take_cons (by omega) (by omega)]
    exact this
theorem MrgH.end {A B out : Array Keyed} {l : List Keyed} (h : MrgH A B l 0 0) (e : out.toList = l) : Mgd A B out := ⟨by rw [e]; exact h.perm, by rw [e]; exact h.srt⟩
theorem MrgH.doneA {A B out : Array Keyed} {na nb : Nat} (h : MrgH A B out.toList.reverse na nb) (sA : Srt A 0 A.size) (ha : na ≤ A.size) (e : nb = 0) : Mgd A B (A.extract 0 na ++ B.extract 0 nb ++ out.reverse) := by
  subst e
  have := h.appA sA ha na (Nat.le_refl _) (fun j a b i c d => by omega)
  rw [Nat.sub_self] at this
  refine this.end ?_
  simp
theorem MrgH.doneB {A B out : Array Keyed} {na nb : Nat} (h : MrgH A B out.toList.reverse na nb) (sB : Srt B 0 B.size) (hb : nb ≤ B.size) (e : na = 0) : Mgd A B (A.extract 0 na ++ B.extract 0 nb ++ out.reverse) := by
  subst e
  have := h.appB sB hb nb (Nat.le_refl _) (fun j a b i c d => by omega)
  rw [Nat.sub_self] at this
  refine this.end ?_
  simp
theorem MrgH.first {A B out : Array Keyed} {na nb : Nat} (h : MrgH A B out.toList.reverse na nb) (sA : Srt A 0 A.size) (sB : Srt B 0 B.size) (ha : na ≤ A.size) (hb : nb ≤ B.size) (e : nb = 1) (hl : ∀ j, j < A.size → K B 0 ≤ K A j) :
    Mgd A B (B.extract 0 nb ++ A.extract 0 na ++ out.reverse) := by
  subst e
  have h1 := h.appA sA ha na (Nat.le_refl _) (fun j a b i c d => by
    obtain rfl : i = 0 := by lia
    exact hl j (by omega))
  rw [Nat.sub_self] at h1
  have := h1.appB sB hb 1 (Nat.le_refl _) (fun j a b i c d => by lia)
  rw [Nat.sub_self] at this
  refine this.end ?_
  simp
theorem MrgH.extA {A B out : Array Keyed} {na nb k : Nat} (h : MrgH A B out.toList.reverse na nb) (sA : Srt A 0 A.size) (hA : na ≤ A.size) (hk : k ≤ na)
    (hle : ∀ j, k ≤ j → j < na → ∀ i, i < nb → i < B.size → K B i ≤ K A j) : MrgH A B (out ++ (A.extract k na).reverse).toList.reverse k nb := by
  have := h.appA sA hA (na - k) (by omega) (fun j a b => hle j (by omega) b)
  rw [show na - (na - k) = k by omega] at this
  simpa [List.extract_eq_take_drop] using this
theorem MrgH.extB {A B out : Array Keyed} {na nb k : Nat} (h : MrgH A B out.toList.reverse na nb) (sB : Srt B 0 B.size) (hB : nb ≤ B.size) (hk : k ≤ nb)
    (hle : ∀ j, k ≤ j → j < nb → ∀ i, i < na → i < A.size → K A i ≤ K B j) : MrgH A B (out ++ (B.extract k nb).reverse).toList.reverse na k := by
  have := h.appB sB hB (nb - k) (by omega) (fun j a b => hle j (by omega) b)
  rw [show nb - (nb - k) = k by omega] at this
  simpa [List.extract_eq_take_drop] using this
theorem MrgH.putA {A B out : Array Keyed} {na nb : Nat} (h : MrgH A B out.toList.reverse na nb) (sA : Srt A 0 A.size) (h0 : 0 < na) (h1 : na - 1 < A.size)
    (hle : ∀ i, i < nb → i < B.size → K B i ≤ K A (na - 1)) : MrgH A B (out.push A[na - 1]).toList.reverse (na - 1) nb := by
  rw [Array.toList_push, List.reverse_append]
  exact h.consA sA h0 h1 hle
theorem MrgH.putB {A B out : Array Keyed} {na nb : Nat} (h : MrgH A B out.toList.reverse na nb) (sB : Srt B 0 B.size) (h0 : 0 < nb) (h1 : nb - 1 < B.size)
    (hle : ∀ i, i < na → i < A.size → K A i ≤ K B (nb - 1)) : MrgH A B (out.push B[nb - 1]).toList.reverse na (nb - 1) := by
  rw [Array.toList_push, List.reverse_append]
  exact h.consB sB h0 h1 hle
structure HiI (a b : Array Keyed) (n na nb : Nat) (out : Array Keyed) : Prop where
  m : MrgH a b out.toList.reverse na nb
  a0 : 0 < na
  a1 : na ≤ a.size
  b0 : 1 < nb
  b1 : nb ≤ b.size
  le : n ≤ (a.size - na) + (b.size - nb)
theorem HiI.la {a b : Array Keyed} {n na nb : Nat} {out : Array Keyed} (i : HiI a b n na nb out) : na - 1 < a.size := by have := i.a0; have := i.a1; omega
theorem HiI.lb {a b : Array Keyed} {n na nb : Nat} {out : Array Keyed} (i : HiI a b n na nb out) : nb - 1 < b.size := by have := i.b0; have := i.b1; omega
theorem HiI.stepA {a b : Array Keyed} {n na nb : Nat} {out out' : Array Keyed} (i : HiI a b n na nb out) (m : MrgH a b out'.toList.reverse (na - 1) nb) (e : ¬ na - 1 = 0) : HiI a b (n + 1) (na - 1) nb out' := by
  have h1 := i.a0; have h2 := i.a1; have h3 := i.le
  exact ⟨m, by lia, by omega, i.b0, i.b1, by grind⟩
theorem HiI.stepB {a b : Array Keyed} {n na nb : Nat} {out out' : Array Keyed} (i : HiI a b n na nb out) (m : MrgH a b out'.toList.reverse na (nb - 1)) (e : ¬ nb - 1 = 1) : HiI a b (n + 1) na (nb - 1) out' := by
  have h1 := i.b0; have h2 := i.b1; have h3 := i.le
  exact ⟨m, i.a0, i.a1, by lia, by omega, by omega⟩
theorem HiI.toA {a b : Array Keyed} {n na nb k : Nat} {out out' : Array Keyed} (i : HiI a b n na nb out) (m : MrgH a b out'.toList.reverse k nb) (e : ¬ k = 0) (hk : k ≤ na) : HiI a b n k nb out' := by
  have h2 := i.a1; have h3 := i.le
  exact ⟨m, by lia, by lia, i.b0, i.b1, by grind⟩
theorem HiI.toB {a b : Array Keyed} {n na nb k : Nat} {out out' : Array Keyed} (i : HiI a b n na nb out) (m : MrgH a b out'.toList.reverse na k) (e : ¬ k = 1) (e' : ¬ k = 0) (hk : k ≤ nb) : HiI a b n na k out' := by
  have h2 := i.b1; have h3 := i.le
  exact ⟨m, i.a0, i.a1, by lia, by omega, by omega⟩
theorem HiI.less {a b : Array Keyed} {n na nb : Nat} {out : Array Keyed} (i : HiI a b (n + 1) na nb out) : HiI a b n na nb out := ⟨i.m, i.a0, i.a1, i.b0, i.b1, Nat.le_of_succ_le i.le⟩
section
variable {prog : Program} {w : World} {A : Around} {E : Value → Shared → Prop} {s : Shared} {a₀ : Array Keyed}
theorem wpS_jp3 {α X Y Z : Type} {Q : α → SortSt → Prop} {st : SortSt} {t : StateT SortSt Sem α} (H : X → Y → Prop) (T : X → Y → Z → StateT SortSt Sem α) (main : (∀ x y z, H x y → wpS (model prog w) A E s (T x y z) Q st) → wpS (model prog w) A E s t Q st)
    (key : ∀ x y z, H x y → wpS (model prog w) A E s (T x y z) Q st) : wpS (model prog w) A E s t Q st := main key
theorem wpS_mergeHi {st : SortSt} {a b : Array Keyed} {Q : Array Keyed → SortSt → Prop} (hk : kindOf st = oneType') (ka : ∀ p, p ∈ a.toList → IsInt p) (kb : ∀ p, p ∈ b.toList → IsInt p)
    (sa : Srt a 0 a.size) (sb : Srt b 0 b.size) (ha : 1 ≤ a.size) (hb : 1 ≤ b.size) (h0 : ∀ j, j < a.size → K b 0 ≤ K a j) (hl : ∀ j, j < b.size → K b j ≤ K a (a.size - 1))
    (h : ∀ out st', Only st st' → Mgd a b out → Q out st') : wpS (model prog w) A E s (mergeHi' a b) Q st := by
  with_unfolding_all refine wpS_bind ?_
  refine wpS_lift (wpAny_rule ⟨rfl, ?_⟩)
  dsimp only
  have ha' : a.size - 1 < a.size := by omega
  refine wpS_bind (wpS_elem (item_of ha') ?_)
  have m0 : MrgH a b (#[a[a.size - 1]] : Array Keyed).toList.reverse (a.size - 1) b.size := MrgH.consA (l := []) (na := a.size) ⟨by simp, .nil, (fun _ h => nomatch h), fun _ h => nomatch h⟩ sa (by omega) ha' (fun i _ hi => hl i hi)
  by_cases e1 : a.size - 1 = 0
  · rw [if_pos (beq_iff_eq.mpr e1)]
    exact wpS_pure (h _ _ (.refl _) (m0.doneB sb (Nat.le_refl _) e1))
  rw [if_neg (fun q => e1 (beq_iff_eq.mp q))]
  by_cases e2 : b.size = 1
  · rw [if_pos (beq_iff_eq.mpr e2)]
    exact wpS_pure (h _ _ (.refl _) (m0.first sa sb (Nat.sub_le _ _) (Nat.le_refl _) e2 h0))
  rw [if_neg (fun q => e2 (beq_iff_eq.mp q))]
  refine wpS_bind (wpS_get ?_)
  refine wpS_bind (wpS_mono (wpS_forRange (I := fun x c st' => Only st st' ∧ ∃ na nb out g, c = (none, na, nb, out, g) ∧ HiI a b (x + 1) na nb out)
    (Q := fun c st' => Only st st' ∧ ∃ r t, c = (some r, t) ∧ Mgd a b r) ?step ?fin ⟨.refl _, _, _, _, _, rfl, m0, by lia, by omega, by lia, by lia, by lia⟩) ?post)
  case fin =>
    rintro c st' ⟨_, na, nb, out, g, rfl, h1, h2, h3, h4, h5, h6⟩
    grind
  case post =>
    intro c st' hc
    revert c
    refine exR fun ho r t hm => ?_
    exact wpS_pure (h r st' ho hm)
  case step =>
    intro x c st1 _ hx hc
    revert c
    refine ex4 fun ho na nb out g i => ?_
    dsimp only
    clear m0 e1 e2 h
    refine wpS_bind (wpS_mono (wpS_forRange (I := fun y c st' => Only st st' ∧ ∃ na nb out ac bc, c = (none, na, nb, out, ac, bc) ∧ HiI a b (x + 1) na nb out)
      (Q := fun c st' => Only st st' ∧ ((∃ na nb out ac bc, c = (none, na, nb, out, ac, bc) ∧ HiI a b (x + 1) na nb out) ∨ ∃ r t, c = (some r, t) ∧ Mgd a b r))
      ?step1 ?fin1 ⟨ho, na, nb, out, _, _, rfl, i⟩) ?post1)
    case fin1 => exact fun c st' hc => ⟨hc.1, .inl hc.2⟩
    case step1 =>
      clear i ho
      intro y c st2 _ hy hc
      revert c
      refine ex5 fun ho na nb out ac bc i => ?_
      dsimp only
      refine wpS_bind (wpS_elem (item_of i.lb) ?_)
      refine wpS_bind (wpS_elem (item_of i.la) ?_)
      refine wpS_bind (wpS_lt (ho.kind.trans hk) (kb _ (by simp)) (ka _ (by simp)) ?_)
      dsimp only
      rw [← K_of (item_of i.lb), ← K_of (item_of i.la)]
      by_cases hw : K b (nb - 1) < K a (na - 1)
      · rw [if_pos (decide_eq_true hw)]
        refine wpS_bind (wpS_elem (item_of i.la) ?_)
        have m2 := i.m.putA sa i.a0 i.la (fun q x1 x2 => Int.le_trans (sb q (nb - 1) (Nat.zero_le _) (Nat.le_sub_one_of_lt x1) i.lb) (Int.le_of_lt hw))
        by_cases e : na - 1 = 0
        · rw [if_pos (beq_iff_eq.mpr e)]
          exact wpS_pure ⟨ho, .inr ⟨_, _, rfl, m2.doneB sb i.b1 e⟩⟩
        rw [if_neg (fun q => e (beq_iff_eq.mp q))]
        have i2 := (i.stepA m2 e).less
        split
        · exact wpS_pure ⟨ho, .inl ⟨_, _, _, _, _, rfl, i2⟩⟩
        · exact wpS_pure ⟨ho, _, _, _, _, _, rfl, i2⟩
      · rw [if_neg (by rw [decide_eq_false hw]; exact Bool.false_ne_true)]
        refine wpS_bind (wpS_elem (item_of i.lb) ?_)
        have m2 := i.m.putB sb (Nat.lt_of_succ_lt i.b0) i.lb (fun q x1 x2 => Int.le_trans (sa q (na - 1) (Nat.zero_le _) (Nat.le_sub_one_of_lt x1) i.la) (Int.not_lt.mp hw))
        by_cases e : nb - 1 = 1
        · rw [if_pos (beq_iff_eq.mpr e)]
          exact wpS_pure ⟨ho, .inr ⟨_, _, rfl, m2.first sa sb i.a1 (Nat.le_of_lt i.lb) e h0⟩⟩
        rw [if_neg (fun q => e (beq_iff_eq.mp q))]
        have i2 := (i.stepB m2 e).less
        split
        · exact wpS_pure ⟨ho, .inl ⟨_, _, _, _, _, rfl, i2⟩⟩
        · exact wpS_pure ⟨ho, _, _, _, _, _, rfl, i2⟩
    case post1 =>
      clear i ho
      intro c st2 hc0
      refine or_two hc0 (fun hc => ?_) (fun hc => ?_)
      rotate_left
      · clear hc0
        revert c
        exact exR fun ho r t hm => wpS_pure ⟨ho, r, _, rfl, hm⟩
      clear hc0
      revert c
      refine ex5 fun ho na nb out ac bc i => ?_
      dsimp only
      refine wpS_bind (wpS_lift (wpAny_rule ⟨rfl, ?_⟩))
      refine wpS_bind (wpS_mono (wpS_forRange (I := fun y c st' => Only st st' ∧ ∃ na nb out g ac bc, c = (none, na, nb, out, g, ac, bc) ∧ HiI a b (x + 1) na nb out ∧ (y ≠ 0 → x + 2 ≤ (a.size - na) + (b.size - nb)))
        (Q := fun c st' => Only st st' ∧ ((∃ na nb out g ac bc, c = (none, na, nb, out, g, ac, bc) ∧ HiI a b (x + 2) na nb out) ∨ ∃ r t, c = (some r, t) ∧ Mgd a b r))
        ?step2 ?fin2 ⟨ho, na, nb, out, _, _, _, rfl, i, fun e => absurd rfl e⟩) ?post2)
      case fin2 =>
        rintro c st' ⟨h1, na, nb, out, g, ac, bc, e, i, h8⟩
        exact ⟨h1, .inl ⟨na, nb, out, g, ac, bc, e, i.m, i.a0, i.a1, i.b0, i.b1, h8 (by lia)⟩⟩
      case post2 =>
        intro c st' hc0
        refine or_two hc0 (fun hc => ?_) (fun hc => ?_)
        rotate_left
        · clear hc0
          revert c
          exact exR fun ho r t hm => wpS_pure ⟨ho, r, _, rfl, hm⟩
        clear hc0
        revert c
        refine ex6 fun ho na nb out g ac bc i => ?_
        dsimp only
        exact wpS_bind (wpS_setG fun st3 h3 => wpS_pure ⟨ho.trans h3, _, _, _, _, rfl, i⟩)
      case step2 =>
        clear i ho
        intro y c st3 _ hy hc
        revert c
        refine ex6 fun ho na nb out g ac bc i' => ?_
        dsimp only
        have i := i'.1
        clear i'
        refine' wpS_jp1 (X := Nat) _ (fun key => ?_) ?_
        rotate_left
        · by_cases hg : g > 1
          · rw [if_pos hg]
            generalize g - 1 = g'
            exact key g'
          · rw [if_neg hg]
            exact key g
        intro g'
        refine wpS_bind (wpS_setG fun st4 h4 => ?_)
        have ho4 := ho.trans h4
        clear ho h4
        refine wpS_bind (wpS_elem (item_of i.lb) ?_)
        refine wpS_bind (wpS_galF (ho4.kind.trans hk) (kb _ (by simp)) ka na (by rw [Nat.zero_add]; exact i.a1) (Nat.sub_lt i.a0 Nat.one_pos) sa fun k k1 k2 k3 => ?_)
        rw [← K_of (item_of i.lb)] at k2 k3
        simp only [Nat.zero_add, Nat.zero_le, true_implies] at k2 k3
        dsimp only
        refine' wpS_jp3 (X := Nat) (Y := Array Keyed) (Z := Nat) (fun j o => HiI a b (x + 1) j nb o ∧ ∀ q, q < j → K a q ≤ K b (nb - 1)) _ (fun key => ?_) ?_
        rotate_left
        · by_cases hk0 : na - k > 0
          · have m1 := i.m.extA sa i.a1 k1 (fun j x1 x2 q x3 x4 => Int.le_trans (sb q (nb - 1) (Nat.zero_le _) (Nat.le_sub_one_of_lt x3) i.lb) (Int.le_of_lt (k3 j x1 x2)))
            rw [if_pos hk0]
            revert m1
            generalize out ++ (a.extract k na).reverse = out'
            generalize na - k = c
            intro m1
            by_cases e1 : k = 0
            · rw [if_pos (beq_iff_eq.mpr e1)]
              exact wpS_pure ⟨ho4, .inr ⟨_, _, rfl, m1.doneB sb i.b1 e1⟩⟩
            rw [if_neg (fun q => e1 (beq_iff_eq.mp q))]
            have z : HiI a b (x + 1) k nb out' ∧ ∀ q, q < k → K a q ≤ K b (nb - 1) := ⟨i.toA m1 e1 k1, k2⟩
            clear e1
            revert z
            generalize k = k'
            exact key k' out' c
          · rw [if_neg hk0]
            generalize na - k = c
            have z : HiI a b (x + 1) na nb out ∧ ∀ q, q < na → K a q ≤ K b (nb - 1) := ⟨i, fun j hj => k2 j (by omega)⟩
            exact key na out c z
        clear k3 k2 k1 i
        intro na' out c n
        have i := n.1
        have k2 := n.2
        clear n
        refine wpS_bind (wpS_elem (item_of i.lb) ?_)
        have n2 := i.m.putB sb (Nat.lt_of_succ_lt i.b0) i.lb (fun q x1 x2 => k2 q x1)
        clear k2
        by_cases e3 : nb - 1 = 1
        · rw [if_pos (beq_iff_eq.mpr e3)]
          exact wpS_pure ⟨ho4, .inr ⟨_, _, rfl, n2.first sa sb i.a1 (Nat.le_of_lt i.lb) e3 h0⟩⟩
        rw [if_neg (fun q => e3 (beq_iff_eq.mp q))]
        have i2 := i.stepB n2 e3
        refine wpS_bind (wpS_elem (item_of i.la) ?_)
        refine wpS_bind (wpS_galT (ho4.kind.trans hk) (ka _ (by simp)) kb (nb - 1) (by rw [Nat.zero_add]; exact Nat.le_of_lt i.lb) (Nat.sub_lt (Nat.lt_of_succ_lt i2.b0) Nat.one_pos) sb fun q q1 q2 q3 => ?_)
        rw [← K_of (item_of i.la)] at q2 q3
        simp only [Nat.zero_add, Nat.zero_le, true_implies] at q2 q3
        dsimp only
        refine' wpS_jp3 (X := Nat) (Y := Array Keyed) (Z := Nat) (fun j o => HiI a b (x + 2) na' j o ∧ ∀ q, q < j → K b q ≤ K a (na' - 1)) _ (fun key => ?_) ?_
        rotate_left
        · have q4 : ∀ j, j < q → K b j ≤ K a (na' - 1) := fun j hj => Int.le_of_lt (q2 j hj)
          by_cases hq0 : nb - 1 - q > 0
          · have n3 := n2.extB sb (Nat.le_of_lt i.lb) q1 (fun j x1 x2 z x3 x4 => Int.le_trans (sa z (na' - 1) (Nat.zero_le _) (Nat.le_sub_one_of_lt x3) i.la) (q3 j x1 x2))
            rw [if_pos hq0]
            revert n3
            generalize (out.push (b[nb - 1]'i.lb)) ++ (b.extract q (nb - 1)).reverse = out'
            generalize nb - 1 - q = c'
            intro n3
            by_cases e4 : q = 1
            · rw [if_pos (beq_iff_eq.mpr e4)]
              exact wpS_pure ⟨ho4, .inr ⟨_, _, rfl, n3.first sa sb i.a1 (by omega) e4 h0⟩⟩
            rw [if_neg (fun q => e4 (beq_iff_eq.mp q))]
            by_cases e5 : q = 0
            · rw [if_pos (beq_iff_eq.mpr e5)]
              exact wpS_pure ⟨ho4, .inr ⟨_, _, rfl, n3.doneA sa i.a1 e5⟩⟩
            rw [if_neg (fun q => e5 (beq_iff_eq.mp q))]
            have z : HiI a b (x + 2) na' q out' ∧ ∀ j, j < q → K b j ≤ K a (na' - 1) := ⟨i2.toB n3 e4 e5 q1, q4⟩
            clear e4 e5
            revert z
            generalize q = q'
            exact key q' out' c'
          · rw [if_neg hq0]
            generalize nb - 1 - q = c'
            have z : HiI a b (x + 2) na' (nb - 1) (out.push (b[nb - 1]'i.lb)) ∧ ∀ j, j < nb - 1 → K b j ≤ K a (na' - 1) := ⟨i2, fun j hj => q4 j (by omega)⟩
            exact key _ _ c' z
        clear q3 q2 q1 e3 i2
        intro nb' out c' n
        have i3 := n.1
        have q2 := n.2
        clear n
        refine wpS_bind (wpS_elem (item_of i.la) ?_)
        have n5 := i3.m.putA sa i3.a0 i.la (fun q x1 x2 => q2 q x1)
        split
        · rename_i e5
          exact wpS_pure ⟨ho4, .inr ⟨_, _, rfl, n5.doneB sb i3.b1 (beq_iff_eq.mp e5)⟩⟩
        · rename_i e5
          have i4 := (i3.stepA n5 (fun q => e5 (beq_iff_eq.mpr q))).less
          split
          · exact wpS_pure ⟨ho4, .inl ⟨_, _, _, _, _, _, rfl, i4⟩⟩
          · exact wpS_pure ⟨ho4, _, _, _, _, _, _, rfl, i4.less, fun _ => i4.le⟩
end
end Mine

end
section
open PySem PyProof.Rows
namespace Mine
theorem put_list {α : Type} {off : Nat} : ∀ (m : List α) (k : Nat) (arr : Array α), off + k + m.length ≤ arr.size →
    ((m.zipIdx k).foldl (fun a (p : α × Nat) => a.setIfInBounds (off + p.2) p.1) arr).toList = arr.toList.take (off + k) ++ m ++ arr.toList.drop (off + k + m.length)
  | [], k, arr, _ => by simp
  | p :: m, k, arr, h => by
    simp only [List.length_cons] at h
    rw [List.zipIdx_cons, List.foldl_cons, put_list m (k + 1) _ (by rw [Array.size_setIfInBounds]; omega), Array.toList_setIfInBounds]
    have h1 : (arr.toList.set (off + k) p).take (off + (k + 1)) = arr.toList.take (off + k) ++ [p] := by
      rw [show off + (k + 1) = off + k + 1 by lia, List.take_add_one, List.take_set_of_le (Nat.le_refl _), List.getElem?_set_self (by simp; omega)]
      rfl
    have h2 : (arr.toList.set (off + k) p).drop (off + (k + 1) + m.length) = arr.toList.drop (off + k + (p :: m).length) := by
      rw [List.drop_set_of_lt (by lia), List.length_cons]
      congr 1
      lia
    rw [h1, h2]
    simp
noncomputable def KL (l : List Keyed) (j : Nat) : Int := match l[j]? with
  | some p => numOf p.1
  | none => 0
theorem KL_of {xs : Array Keyed} {j : Nat} : K xs j = KL xs.toList j := by unfold K KL; rw [Array.getElem?_toList]; rfl
theorem KL_app {a b : List Keyed} {j : Nat} : KL (a ++ b) j = if j < a.length then KL a j else KL b (j - a.length) := by
  unfold KL
  rw [List.getElem?_append]
  by_cases h : j < a.length
  · rw [if_pos h, if_pos h]
  · rw [if_neg h, if_neg h]
theorem KL_take {l : List Keyed} {n j : Nat} (h : j < n) : KL (l.take n) j = KL l j := by
  unfold KL
  rw [List.getElem?_take, if_pos h]
theorem KL_drop {l : List Keyed} {n j : Nat} : KL (l.drop n) j = KL l (n + j) := by
  unfold KL
  rw [List.getElem?_drop]
theorem mem_part {arr : Array Keyed} {u L : Nat} {p : Keyed} (h : p ∈ (arr.toList.drop u).take L) : ∃ i, u ≤ i ∧ i < u + L ∧ numOf p.1 = K arr i := by
  obtain ⟨j, hj⟩ := List.mem_iff_getElem?.mp h
  rw [List.getElem?_take] at hj
  split at hj
  · rename_i hl
    rw [List.getElem?_drop] at hj
    refine ⟨u + j, by lia, by omega, ?_⟩
    rw [KL_of]
    unfold KL
    rw [hj]
  · cases hj
theorem K_ext {arr : Array Keyed} {u v j : Nat} (h : j < v - u) : K (arr.extract u v) j = K arr (u + j) := by
  rw [KL_of, Array.toList_extract, List.extract_eq_take_drop, KL_take h, KL_drop, ← KL_of]
theorem put_all {arr merged : Array Keyed} {sa k na nb nb' : Nat} (hn : sa + na + nb ≤ arr.size) (hk : k < na) (hb : nb' ≤ nb) (s1 : Srt arr sa (sa + na)) (s2 : Srt arr (sa + na) (sa + na + nb)) (hb1 : 1 ≤ nb')
    (f1 : ∀ i, sa ≤ i → i < sa + k → K arr i ≤ K arr (sa + na)) (f4 : ∀ i, sa + na + nb' ≤ i → i < sa + na + nb → K arr (sa + na - 1) ≤ K arr i)
    (M : Mgd (arr.extract (sa + k) (sa + na)) (arr.extract (sa + na) (sa + na + nb')) merged) :
    (merged.toList.zipIdx.foldl (fun a (p : Keyed × Nat) => a.setIfInBounds (sa + k + p.2) p.1) arr).Perm arr ∧ Srt (merged.toList.zipIdx.foldl (fun a (p : Keyed × Nat) => a.setIfInBounds (sa + k + p.2) p.1) arr) sa (sa + na + nb) ∧
      ∀ j, j < sa ∨ sa + na + nb ≤ j → K (merged.toList.zipIdx.foldl (fun a (p : Keyed × Nat) => a.setIfInBounds (sa + k + p.2) p.1) arr) j = K arr j := by
  obtain ⟨d, rfl⟩ : ∃ d, na = k + d := ⟨na - k, by lia⟩
  have hxy : (arr.extract (sa + k) (sa + (k + d))).toList ++ (arr.extract (sa + (k + d)) (sa + (k + d) + nb')).toList = (arr.toList.drop (sa + k)).take (d + nb') := by
    rw [Array.toList_extract, Array.toList_extract, List.extract_eq_take_drop, List.extract_eq_take_drop, List.take_add, List.drop_drop]
    congr 2
    · omega
    · omega
    · congr 1
      lia
  have hp := M.perm
  rw [hxy] at hp
  have hlen : merged.toList.length = d + nb' := by
    rw [hp.length_eq, List.length_take, List.length_drop, Array.length_toList]
    lia
  have e := put_list (off := sa + k) merged.toList 0 arr (by rw [hlen]; lia)
  rw [Nat.add_zero, hlen] at e
  generalize merged.toList.zipIdx.foldl (fun a (p : Keyed × Nat) => a.setIfInBounds (sa + k + p.2) p.1) arr = arr' at e ⊢
  have kk : ∀ j, K arr' j = if j < sa + k then K arr j else if j < sa + k + (d + nb') then KL merged.toList (j - (sa + k)) else K arr j := by
    intro j
    have l1 : (arr.toList.take (sa + k)).length = sa + k := by rw [List.length_take, Array.length_toList]; lia
    rw [KL_of, e, List.append_assoc, KL_app, l1]
    split
    · rename_i h
      rw [KL_take h, ← KL_of]
    · rw [KL_app, hlen]
      by_cases h : j < sa + k + (d + nb')
      · rw [if_pos h, if_pos (by omega)]
      · rw [if_neg h, if_neg (by omega), KL_drop, ← KL_of]
        congr 1
        omega
  have src : ∀ j, j < d + nb' → ∃ i, sa + k ≤ i ∧ i < sa + (k + d) + nb' ∧ KL merged.toList j = K arr i := by
    intro j hj
    have hj' : j < merged.toList.length := by omega
    obtain ⟨i, h1, h2, h3⟩ := mem_part (hp.mem_iff.mp (List.getElem_mem hj'))
    refine ⟨i, h1, by omega, ?_⟩
    rw [← h3]
    unfold KL
    rw [List.getElem?_eq_getElem hj']
  have srt : ∀ i j, i ≤ j → j < d + nb' → KL merged.toList i ≤ KL merged.toList j := by
    intro i j hij hj
    have hj' : j < merged.toList.length := by omega
    have hi' : i < merged.toList.length := by omega
    unfold KL
    rw [List.getElem?_eq_getElem hj', List.getElem?_eq_getElem hi']
    by_cases h : i = j
    · subst h; exact Int.le_refl _
    · exact List.pairwise_iff_getElem.mp M.srt i j hi' hj' (by lia)
  refine ⟨?_, ?_, ?_⟩
  · rw [Array.perm_iff_toList_perm, e]
    have := List.Perm.append_right (arr.toList.drop (sa + k + (d + nb'))) (List.Perm.append_left (arr.toList.take (sa + k)) hp)
    refine this.trans (List.Perm.of_eq ?_)
    rw [List.append_assoc, show arr.toList.drop (sa + k + (d + nb')) = (arr.toList.drop (sa + k)).drop (d + nb') from List.drop_drop.symm, List.take_append_drop, List.take_append_drop]
  · intro p q h1 h2 h3
    rw [kk, kk]
    by_cases hq : q < sa + k
    · rw [if_pos hq, if_pos (by omega)]
      exact s1 p q h1 h2 (by omega)
    rw [if_neg hq]
    by_cases hq2 : q < sa + k + (d + nb')
    · rw [if_pos hq2]
      by_cases hp1 : p < sa + k
      · rw [if_pos hp1]
        obtain ⟨i, i1, i2, i3⟩ := src (q - (sa + k)) (by omega)
        rw [i3]
        by_cases hi : i < sa + (k + d)
        · exact s1 p i h1 (by lia) hi
        · exact Int.le_trans (f1 p h1 hp1) (s2 _ i (Nat.le_refl _) (by omega) (by omega))
      · rw [if_neg hp1, if_pos (by omega)]
        exact srt _ _ (by omega) (by omega)
    · rw [if_neg hq2]
      have hq3 : sa + (k + d) + nb' ≤ q := by omega
      by_cases hp1 : p < sa + k
      · rw [if_pos hp1]
        exact Int.le_trans (f1 p h1 hp1) (s2 _ q (Nat.le_refl _) (by omega) h3)
      · rw [if_neg hp1]
        split
        · obtain ⟨i, i1, i2, i3⟩ := src (p - (sa + k)) (by omega)
          rw [i3]
          by_cases hi : i < sa + (k + d)
          · exact Int.le_trans (s1 i (sa + (k + d) - 1) (by lia) (by omega) (by omega)) (f4 q hq3 h3)
          · exact s2 i q (by omega) (by omega) h3
        · exact s2 p q (by omega) h2 h3
  · intro j hj
    rw [kk]
    split
    · rfl
    · rw [if_neg (by omega)]
section
variable {prog : Program} {w : World} {A : Around} {E : Value → Shared → Prop} {s : Shared} {a₀ : Array Keyed}
theorem wpS_set {σ : Type} {M : Model} {st st' : σ} {Q : PUnit → σ → Prop} (h : Q ⟨⟩ st') : wpS M A E s (set st' : StateT σ Sem PUnit) Q st := by
  unfold wpS; rw [StateT.run_set]; exact wpAny_pure ⟨rfl, h⟩
theorem SB.ints {st : SortSt} (hB : SB a₀ st) (h0 : IntKeys a₀) : ∀ p, p ∈ (arrOf st).toList → IsInt p := fun p hp => h0 p ((Array.perm_iff_toList_perm.mp hB.perm).mem_iff.mp hp)
theorem mem_ext {arr : Array Keyed} {u v : Nat} {p : Keyed} (h : p ∈ (arr.extract u v).toList) : p ∈ arr.toList := by
  rw [Array.toList_extract, List.extract_eq_take_drop] at h
  exact List.mem_of_mem_drop (List.mem_of_mem_take h)
theorem wpS_mergeAt {st : SortSt} {i sa na p1 nb p2 : Nat} {Q : Bool → SortSt → Prop} (hB : SB a₀ st) (h0 : IntKeys a₀) (hp1 : (pendingOf st)[i]? = some (sa, na, p1)) (hp2 : (pendingOf st)[i + 1]? = some (sa + na, nb, p2))
    (ha : 1 ≤ na) (hb : 1 ≤ nb) (hn : sa + na + nb ≤ a₀.size) (s1 : Srt (arrOf st) sa (sa + na)) (s2 : Srt (arrOf st) (sa + na) (sa + na + nb))
    (h : ∀ st', SB a₀ st' → pendingOf st' = ((pendingOf st).setIfInBounds i (sa, na + nb, p1)).eraseIdxIfInBounds (i + 1) → Srt (arrOf st') sa (sa + na + nb) →
      (∀ j, j < sa ∨ sa + na + nb ≤ j → K (arrOf st') j = K (arrOf st) j) → Q true st') :
    wpS (model prog w) A E s (mergeAt' i) Q st := by
  have hz : sa + na + nb ≤ (arrOf st).size := by rw [hB.size]; exact hn
  have ki := hB.ints h0
  have l1 : sa + na < (arrOf st).size := by omega
  have l2 : sa + na - 1 < (arrOf st).size := by omega
  have ke1 := K_of (item_of l1)
  have ke2 := K_of (item_of l2)
  with_unfolding_all refine wpS_bind (wpS_get ?_)
  rw [hp1, hp2]
  dsimp only
  refine wpS_bind (wpS_set ?_)
  refine wpS_bind (wpS_elem (item_of l1) ?_)
  refine wpS_bind (wpS_gallop hB.kind (ki _ (by simp)) ki (show sa + na ≤ (arrOf st).size by lia) (by omega) s1 fun k k1 k2 k3 => ?_)
  simp only [before_f, ← ke1] at k2 k3
  dsimp only
  have f1 : ∀ i, sa ≤ i → i < sa + k → K (arrOf st) i ≤ K (arrOf st) (sa + na) := fun i a b => by
    have := k2 (i - sa) (by omega)
    rwa [show sa + (i - sa) = i by omega] at this
  have f2 : ∀ i, sa + k ≤ i → i < sa + na → K (arrOf st) (sa + na) < K (arrOf st) i := fun i a b => by
    have := k3 (i - sa) (by omega) (by omega)
    rw [show sa + (i - sa) = i by omega] at this
    exact Int.not_le.mp this
  by_cases e1 : na - k = 0
  · rw [if_pos (by simpa using e1)]
    refine wpS_pure (h _ ⟨hB.perm, hB.kind, hB.failed⟩ rfl (fun p q a b c => ?_) (fun _ _ => rfl))
    by_cases hq : q < sa + na
    · exact s1 p q a b hq
    · by_cases hp : p < sa + na
      · exact Int.le_trans (f1 p a (by omega)) (s2 _ q (Nat.le_refl _) (by omega) c)
      · exact s2 p q (by omega) b c
  rw [if_neg (by simpa using e1)]
  rw [show sa + k + (na - k) - 1 = sa + na - 1 by lia]
  refine wpS_bind (wpS_elem (item_of l2) ?_)
  refine wpS_bind (wpS_gallop hB.kind (ki _ (by simp)) ki (show sa + na + nb ≤ (arrOf st).size by omega) (by omega) s2 fun r r1 r2 r3 => ?_)
  simp only [before_t, ← ke2] at r2 r3
  dsimp only
  have f3 : ∀ i, sa + na ≤ i → i < sa + na + r → K (arrOf st) i < K (arrOf st) (sa + na - 1) := fun i a b => by
    have := r2 (i - (sa + na)) (by omega)
    rwa [show sa + na + (i - (sa + na)) = i by omega] at this
  have f4 : ∀ i, sa + na + r ≤ i → i < sa + na + nb → K (arrOf st) (sa + na - 1) ≤ K (arrOf st) i := fun i a b => by
    have := r3 (i - (sa + na)) (by omega) (by omega)
    rw [show sa + na + (i - (sa + na)) = i by omega] at this
    exact Int.not_lt.mp this
  by_cases e2 : r = 0
  · rw [if_pos (by simpa using e2)]
    refine wpS_pure (h _ ⟨hB.perm, hB.kind, hB.failed⟩ rfl (fun p q a b c => ?_) (fun _ _ => rfl))
    by_cases hq : q < sa + na
    · exact s1 p q a b hq
    · by_cases hp : p < sa + na
      · exact Int.le_trans (s1 p (sa + na - 1) a (by omega) (by omega)) (f4 q (by lia) c)
      · exact s2 p q (by omega) b c
  rw [if_neg (by simpa using e2)]
  have zx : ((arrOf st).extract (sa + k) (sa + na)).size = na - k := by rw [Array.size_extract]; lia
  have zy : ((arrOf st).extract (sa + na) (sa + na + r)).size = r := by rw [Array.size_extract]; lia
  have lx : 1 ≤ ((arrOf st).extract (sa + k) (sa + na)).size := by rw [zx]; lia
  have ly : 1 ≤ ((arrOf st).extract (sa + na) (sa + na + r)).size := by rw [zy]; lia
  have kx : ∀ j, j < na - k → K ((arrOf st).extract (sa + k) (sa + na)) j = K (arrOf st) (sa + k + j) := fun j hj => K_ext (by lia)
  have ky : ∀ j, j < r → K ((arrOf st).extract (sa + na) (sa + na + r)) j = K (arrOf st) (sa + na + j) := fun j hj => K_ext (by omega)
  have sx : Srt ((arrOf st).extract (sa + k) (sa + na)) 0 ((arrOf st).extract (sa + k) (sa + na)).size := by
    rw [zx]
    intro p q a b c
    rw [kx p (by omega), kx q c]
    exact s1 _ _ (by lia) (by omega) (by omega)
  have sy : Srt ((arrOf st).extract (sa + na) (sa + na + r)) 0 ((arrOf st).extract (sa + na) (sa + na + r)).size := by
    rw [zy]
    intro p q a b c
    rw [ky p (by lia), ky q c]
    exact s2 _ _ (by lia) (by omega) (by lia)
  have hl : ∀ j, j < ((arrOf st).extract (sa + na) (sa + na + r)).size → K ((arrOf st).extract (sa + na) (sa + na + r)) j ≤ K ((arrOf st).extract (sa + k) (sa + na)) (((arrOf st).extract (sa + k) (sa + na)).size - 1) := by
    rw [zx, zy]
    intro j hj
    rw [ky j hj, kx _ (by omega), show sa + k + (na - k - 1) = sa + na - 1 by lia]
    exact Int.le_of_lt (f3 _ (by lia) (by lia))
  have hf : ∀ j, j < ((arrOf st).extract (sa + k) (sa + na)).size → K ((arrOf st).extract (sa + na) (sa + na + r)) 0 ≤ K ((arrOf st).extract (sa + k) (sa + na)) j := by
    rw [zx]
    intro j hj
    rw [ky 0 (by lia), kx j hj]
    exact Int.le_of_lt (f2 _ (by lia) (by omega))
  have fin : ∀ (out : Array Keyed) (st2 st' : SortSt), Only (setPending st (((pendingOf st).setIfInBounds i (sa, na + nb, p1)).eraseIdxIfInBounds (i + 1))) st2 → Mgd ((arrOf st).extract (sa + k) (sa + na)) ((arrOf st).extract (sa + na) (sa + na + r)) out →
      st' = setArr st2 (out.toList.zipIdx.foldl (fun a (p : Keyed × Nat) => a.setIfInBounds (sa + k + p.2) p.1) (arrOf st2)) → Q (failedOf st').isNone st' := by
    intro out st2 st' ho M e
    have q0 : arrOf st2 = arrOf st := ho.arr
    obtain ⟨q1, q2, q3⟩ := put_all hz (by omega) r1 s1 s2 (by lia) f1 f4 M
    rw [← q0] at q1 q2 q3
    have ef : failedOf st' = none := by rw [e]; exact ho.failed.trans hB.failed
    rw [ef]
    refine h st' ⟨?_, ?_, ef⟩ ?_ ?_ ?_
    · rw [e]
      refine Array.Perm.trans q1 ?_
      rw [q0]
      exact hB.perm
    · rw [e]; exact ho.kind.trans hB.kind
    · rw [e]; exact ho.pend
    · rw [e]; exact q2
    · rw [e]
      intro j hj
      refine (q3 j hj).trans ?_
      rw [q0]
  split
  · refine wpS_bind (wpS_mergeLo hB.kind (fun p hp => ki p (mem_ext hp)) (fun p hp => ki p (mem_ext hp)) sx sy lx ly (hf 0 lx) hl fun out st' ho M => ?_)
    exact wpS_bind (wpS_modify (wpS_bind (wpS_get (wpS_pure (fin out st' _ ho M rfl)))))
  · refine wpS_bind (wpS_mergeHi hB.kind (fun p hp => ki p (mem_ext hp)) (fun p hp => ki p (mem_ext hp)) sx sy lx ly hf hl fun out st' ho M => ?_)
    exact wpS_bind (wpS_modify (wpS_bind (wpS_get (wpS_pure (fin out st' _ ho M rfl)))))
end
end Mine

end
section
open PySem PyProof.Rows
namespace Mine
abbrev Run3 := Nat × Nat × Nat
noncomputable def Chain (xs : Array Keyed) : Nat → List Run3 → Nat → Prop
  | a, [], b => a = b
  | a, r :: l, b => r.1 = a ∧ 1 ≤ r.2.1 ∧ Srt xs a (a + r.2.1) ∧ Chain xs (a + r.2.1) l b
theorem Chain.le {xs : Array Keyed} : ∀ {l : List Run3} {a b : Nat}, Chain xs a l b → a + l.length ≤ b
  | [], _, _, h => Nat.le_of_eq h
  | r :: l, a, b, h => by
    have := Chain.le h.2.2.2
    have := h.2.1
    simp only [List.length_cons]
    lia
theorem Chain.congr {xs ys : Array Keyed} : ∀ {l : List Run3} {a b : Nat}, Chain xs a l b → (∀ j, a ≤ j → j < b → K ys j = K xs j) → Chain ys a l b
  | [], _, _, h, _ => h
  | r :: l, a, b, h, e => by
    have hl := Chain.le h.2.2.2
    refine ⟨h.1, h.2.1, fun p q h1 h2 h3 => ?_, Chain.congr h.2.2.2 fun j h1 h2 => e j (by lia) h2⟩
    rw [e p (by omega) (by omega), e q (by lia) (by omega)]
    exact h.2.2.1 p q h1 h2 h3
theorem Chain.push {xs : Array Keyed} {n p : Nat} : ∀ {l : List Run3} {a b : Nat}, Chain xs a l b → 1 ≤ n → Srt xs b (b + n) → Chain xs a (l ++ [(b, n, p)]) (b + n)
  | [], _, _, h, h1, h2 => by
    obtain rfl : _ = _ := h
    exact ⟨rfl, h1, h2, rfl⟩
  | r :: l, a, b, h, h1, h2 => ⟨h.1, h.2.1, h.2.2.1, Chain.push h.2.2.2 h1 h2⟩
theorem Chain.mod {xs : Array Keyed} {f : Run3 → Run3} (hf : ∀ r, (f r).1 = r.1 ∧ (f r).2.1 = r.2.1) : ∀ {l : List Run3} {i a b : Nat}, Chain xs a l b → Chain xs a (l.modify i f) b
  | [], _, _, _, h => by simpa using h
  | r :: l, 0, a, b, h => by
    rw [List.modify_zero_cons]
    obtain ⟨e1, e2⟩ := hf r
    unfold Chain at h ⊢
    rw [e1, e2]
    exact h
  | r :: l, i + 1, a, b, h => by
    rw [List.modify_succ_cons]
    exact ⟨h.1, h.2.1, h.2.2.1, Chain.mod hf h.2.2.2⟩
theorem Chain.modP {xs : Array Keyed} {l : List Run3} {i a b : Nat} (pw : Nat) (h : Chain xs a l b) : Chain xs a (l.modify i fun x => (x.1, x.2.1, pw)) b := Chain.mod (f := fun x => (x.1, x.2.1, pw)) (fun _ => ⟨rfl, rfl⟩) h
theorem Chain.at {xs : Array Keyed} : ∀ {i : Nat} {l : List Run3} {a b sa na p1 sb nb p2 : Nat}, Chain xs a l b → l[i]? = some (sa, na, p1) → l[i + 1]? = some (sb, nb, p2) →
    sb = sa + na ∧ 1 ≤ na ∧ 1 ≤ nb ∧ a ≤ sa ∧ sa + na + nb ≤ b ∧ Srt xs sa (sa + na) ∧ Srt xs (sa + na) (sa + na + nb) ∧
      ∀ ys, Srt ys sa (sa + na + nb) → (∀ j, j < sa ∨ sa + na + nb ≤ j → K ys j = K xs j) → Chain ys a ((l.set i (sa, na + nb, p1)).eraseIdx (i + 1)) b
  | 0, r :: r2 :: l, a, b, sa, na, p1, sb, nb, p2, h, h1, h2 => by
    obtain rfl : r = (sa, na, p1) := by simpa using h1
    obtain rfl : r2 = (sb, nb, p2) := by simpa using h2
    obtain ⟨e1, e2, e3, e4, e5, e6, e7⟩ := h
    dsimp only at e1 e2 e3 e4 e5 e6 e7
    subst e1 e4
    have := e7.le
    refine ⟨rfl, e2, e5, Nat.le_refl _, by lia, e3, e6, fun ys hs hk => ?_⟩
    refine ⟨rfl, (by show 1 ≤ na + nb; lia), (by show Srt ys sa (sa + (na + nb)); rw [← Nat.add_assoc]; exact hs), ?_⟩
    show Chain ys (sa + (na + nb)) l b
    rw [← Nat.add_assoc]
    exact e7.congr fun j h1 _ => hk j (.inr h1)
  | i + 1, r :: l, a, b, sa, na, p1, sb, nb, p2, h, h1, h2 => by
    obtain ⟨e1, e2, e3, e4⟩ := h
    obtain ⟨f1, f2, f3, f4, f5, f6, f7, f8⟩ := Chain.at (i := i) e4 (by simpa using h1) (by simpa using h2)
    refine ⟨f1, f2, f3, by lia, f5, f6, f7, fun ys hs hk => ?_⟩
    rw [List.set_cons_succ, List.eraseIdx_cons_succ]
    refine ⟨e1, e2, fun p q h1 h2 h3 => ?_, f8 ys hs hk⟩
    rw [hk p (by lia), hk q (by omega)]
    exact e3 p q h1 h2 h3
theorem ite_lt {n : Nat} (c : Prop) [Decidable c] (h : 2 ≤ n) : (if c then n - 2 - 1 else n - 2) + 1 < n := by
  split <;> omega
section
variable {prog : Program} {w : World} {A : Around} {E : Value → Shared → Prop} {s : Shared} {a₀ : Array Keyed}
theorem wpS_mergeC {st : SortSt} {i b : Nat} {Q : Bool → SortSt → Prop} (hB : SB a₀ st) (h0 : IntKeys a₀) (hc : Chain (arrOf st) 0 (pendingOf st).toList b) (hb : b ≤ a₀.size) (hi : i + 1 < (pendingOf st).size)
    (h : ∀ st', SB a₀ st' → Chain (arrOf st') 0 (pendingOf st').toList b → (pendingOf st').size + 1 = (pendingOf st).size → (∀ j, b ≤ j → K (arrOf st') j = K (arrOf st) j) → Q true st') :
    wpS (model prog w) A E s (mergeAt' i) Q st := by
  have hi0 : i < (pendingOf st).size := by omega
  obtain ⟨⟨sa, na, p1⟩, e1⟩ : ∃ r, (pendingOf st)[i]? = some r := ⟨_, getElem?_pos _ i hi0⟩
  obtain ⟨⟨sb, nb, p2⟩, e2⟩ : ∃ r, (pendingOf st)[i + 1]? = some r := ⟨_, getElem?_pos _ (i + 1) hi⟩
  obtain ⟨f1, f2, f3, f4, f5, f6, f7, f8⟩ := Chain.at hc (by rw [Array.getElem?_toList]; exact e1) (by rw [Array.getElem?_toList]; exact e2)
  subst f1
  refine wpS_mergeAt hB h0 e1 e2 f2 f3 (by lia) f6 f7 fun st' b1 b2 b3 b4 => h st' b1 ?_ ?_ fun j hj => b4 j (.inr (by lia))
  · rw [b2, Array.toList_eraseIdxIfInBounds, Array.toList_setIfInBounds]
    exact f8 _ b3 b4
  · rw [b2, Array.eraseIdxIfInBounds, dif_pos (by rw [Array.size_setIfInBounds]; exact hi), Array.size_eraseIdx, Array.size_setIfInBounds]
    lia
theorem wpS_jpS {α X : Type} {Q : α → SortSt → Prop} {st : SortSt} {t : StateT SortSt Sem α} (H : X → SortSt → Prop) (T : X → StateT SortSt Sem α) (main : (∀ x st', H x st' → wpS (model prog w) A E s (T x) Q st') → wpS (model prog w) A E s t Q st)
    (key : ∀ x st', H x st' → wpS (model prog w) A E s (T x) Q st') : wpS (model prog w) A E s t Q st := main key
theorem wpS_sortS {st : SortSt} {Q : Unit → SortSt → Prop} (h0 : IntKeys a₀) (hB : SB a₀ st) (hp : pendingOf st = #[]) (h2 : 2 ≤ a₀.size)
    (h : ∀ st', (arrOf st').Perm a₀ → failedOf st' = none → SortedTo (arrOf st') a₀.size → Q () st') : wpS (model prog w) A E s sortRuns' Q st := by
  rw [sortRuns'_eq]
  refine wpS_bind (wpS_get ?_)
  dsimp only
  simp only [hB.size]
  generalize minRun' a₀.size a₀.size 0 = mr
  refine wpS_bind (wpS_mono (wpS_forRange
    (I := fun x c st' => ∃ lo, c = (none, lo) ∧ SB a₀ st' ∧ Chain (arrOf st') 0 (pendingOf st').toList lo ∧ lo ≤ a₀.size ∧ (x ≤ lo ∨ lo = a₀.size))
    (Q := fun c st' => c = (none, a₀.size) ∧ SB a₀ st' ∧ Chain (arrOf st') 0 (pendingOf st').toList a₀.size) ?step ?fin ⟨0, rfl, hB, by rw [hp]; rfl, by lia, .inl (by lia)⟩) ?post)
  case fin =>
    rintro c st' ⟨lo, rfl, h1, h2, h3, h4⟩
    obtain rfl : lo = a₀.size := by lia
    exact ⟨rfl, h1, h2⟩
  case step =>
    rintro x c st1 _ hx ⟨lo, rfl, hB1, hC1, l1, l2⟩
    dsimp only
    by_cases hge : lo ≥ a₀.size
    · rw [if_pos hge]
      obtain rfl : lo = a₀.size := by lia
      exact wpS_pure ⟨rfl, hB1, hC1⟩
    rw [if_neg hge]
    refine wpS_bind (wpS_countS h0 (by omega) (by omega) hB1 fun m st2 hk2 m1 m2 hs2 => ?_)
    have hC2 := hC1.congr fun j _ hj => hk2.out j (.inl hj)
    rw [← hk2.pend] at hC2
    dsimp only
    have tail : ∀ (n : Nat) (st3 : SortSt), 1 ≤ n → lo + n ≤ a₀.size → SB a₀ st3 → Chain (arrOf st3) 0 (pendingOf st3).toList lo → Srt (arrOf st3) lo (lo + n) →
        ∃ lo', (none, lo + n) = ((none, lo') : Option Unit × Nat) ∧ SB a₀ (setPending st3 ((pendingOf st3).push (lo, n, 0))) ∧ Chain (arrOf (setPending st3 ((pendingOf st3).push (lo, n, 0)))) 0 (pendingOf (setPending st3 ((pendingOf st3).push (lo, n, 0)))).toList lo' ∧ lo' ≤ a₀.size ∧ (x + 1 ≤ lo' ∨ lo' = a₀.size) := by
      intro n st3 n1 n2 b c d
      refine ⟨lo + n, rfl, ⟨b.perm, b.kind, b.failed⟩, ?_, n2, by lia⟩
      show Chain (arrOf st3) 0 ((pendingOf st3).push (lo, n, 0)).toList (lo + n)
      rw [Array.toList_push]
      exact c.push n1 d
    refine' wpS_jpS (X := Nat) (fun n st3 => (1 ≤ n ∧ lo + n ≤ a₀.size) ∧ SB a₀ st3 ∧ Chain (arrOf st3) 0 (pendingOf st3).toList lo ∧ Srt (arrOf st3) lo (lo + n)) _ (fun go => ?_) ?_
    rotate_left
    · skip
      by_cases hm : m < mr
      · rw [if_pos hm]
        refine wpS_bind (wpS_lift (wpAny_rule ⟨rfl, ?_⟩))
        refine wpS_bind (wpS_binS h0 (by omega) (by omega) hk2.base hs2 fun st3 hk3 hs3 => ?_)
        simp only [Bool.not_true, Bool.false_eq_true, if_false]
        have hC3 := hC2.congr fun j _ hj => hk3.out j (.inl hj)
        rw [← hk3.pend] at hC3
        have z : (1 ≤ min (a₀.size - lo) mr ∧ lo + min (a₀.size - lo) mr ≤ a₀.size) ∧ SB a₀ st3 ∧ Chain (arrOf st3) 0 (pendingOf st3).toList lo ∧ Srt (arrOf st3) lo (lo + min (a₀.size - lo) mr) := ⟨by omega, hk3.base, hC3, hs3⟩
        revert z
        generalize min (a₀.size - lo) mr = n
        exact go n st3
      · rw [if_neg hm]
        have z : (1 ≤ m ∧ lo + m ≤ a₀.size) ∧ SB a₀ st2 ∧ Chain (arrOf st2) 0 (pendingOf st2).toList lo ∧ Srt (arrOf st2) lo (lo + m) := ⟨⟨m1, by omega⟩, hk2.base, hC2, hs2⟩
        clear hm
        revert z
        generalize m = n
        exact go n st2
    clear hC2 hk2 m1 m2 hs2 hC1 hB1
    intro n st3 z
    have n1 := z.1.1
    have n2 := z.1.2
    have hB3 := z.2.1
    have hC3 := z.2.2.1
    have hs3 := z.2.2.2
    clear z
    refine wpS_bind (wpS_get ?_)
    split
    · refine wpS_bind (wpS_mono (wpS_forRange (I := fun _ c st' => c = (none, ()) ∧ SB a₀ st' ∧ Chain (arrOf st') 0 (pendingOf st').toList lo ∧ Srt (arrOf st') lo (lo + n))
        (Q := fun c st' => c = (none, ()) ∧ SB a₀ st' ∧ Chain (arrOf st') 0 (pendingOf st').toList lo ∧ Srt (arrOf st') lo (lo + n)) (fun y c st4 _ hy => ?_) (fun c st4 h => h) ⟨rfl, hB3, hC3, hs3⟩) (fun c st4 => ?_))
      · rintro ⟨rfl, b, cc, d⟩
        refine wpS_bind (wpS_get ?_)
        by_cases hz : (pendingOf st4).size > 1
        · rw [if_pos hz]
          have hz2 : (pendingOf st4).size - 2 < (pendingOf st4).size := by omega
          obtain ⟨⟨u1, u2, u3⟩, hr⟩ : ∃ r, (pendingOf st4)[(pendingOf st4).size - 2]? = some r := ⟨_, getElem?_pos (pendingOf st4) _ hz2⟩
          rw [hr]
          dsimp only
          split
          · exact wpS_pure ⟨rfl, b, cc, d⟩
          · refine wpS_bind (wpS_mergeC b h0 cc (by omega) (by omega) fun st5 b5 c5 _ k5 => ?_)
            simp only [Bool.not_true, Bool.false_eq_true, if_false]
            refine wpS_pure ⟨rfl, b5, c5, fun p q h1 h2 h3 => ?_⟩
            rw [k5 p h1, k5 q (Nat.le_trans h1 h2)]
            exact d p q h1 h2 h3
        · rw [if_neg hz]
          exact wpS_pure ⟨rfl, b, cc, d⟩
      · rintro ⟨rfl, b, cc, d⟩
        dsimp only
        refine wpS_bind (wpS_modify (wpS_bind (wpS_modify (wpS_pure (tail n _ n1 n2 ⟨b.perm, b.kind, b.failed⟩ ?_ d)))))
        refine Eq.mp (congrArg (fun l => Chain (arrOf st4) 0 l lo) (Array.toList_modify ..).symm) ?_
        exact Chain.modP _ cc
    · exact wpS_bind (wpS_modify (wpS_pure (tail n _ n1 n2 hB3 hC3 hs3)))
  case post =>
    rintro c st1 ⟨rfl, hB1, hC1⟩
    dsimp only
    refine wpS_bind (wpS_mono (wpS_forRange (I := fun x c st' => c = (none, ()) ∧ SB a₀ st' ∧ Chain (arrOf st') 0 (pendingOf st').toList a₀.size ∧ ((pendingOf st').size + x ≤ a₀.size ∨ (pendingOf st').size ≤ 1))
      (Q := fun c st' => c = (none, ()) ∧ SB a₀ st' ∧ Chain (arrOf st') 0 (pendingOf st').toList a₀.size ∧ (pendingOf st').size ≤ 1) ?step2 ?fin2 ⟨rfl, hB1, hC1, ?_⟩) ?post2)
    case fin2 =>
      rintro c st' ⟨rfl, b, cc, d⟩
      exact ⟨rfl, b, cc, by lia⟩
    case step2 =>
      rintro x c st2 _ hx ⟨rfl, b, cc, d⟩
      refine wpS_bind (wpS_get ?_)
      by_cases hz : (pendingOf st2).size ≤ 1
      · rw [if_pos hz]
        exact wpS_pure ⟨rfl, b, cc, hz⟩
      · rw [if_neg hz]
        refine wpS_bind (wpS_mergeC b h0 cc (Nat.le_refl _) ?_ fun st5 b5 c5 z5 _ => ?_)
        · exact ite_lt _ (by lia)
        · simp only [Bool.not_true, Bool.false_eq_true, if_false]
          exact wpS_pure ⟨rfl, b5, c5, by omega⟩
    case post2 =>
      rintro c st2 ⟨rfl, b, cc, d⟩
      refine wpS_pure (h st2 b.perm b.failed ?_)
      have hl : (pendingOf st2).toList.length ≤ 1 := by simpa using d
      match hq : (pendingOf st2).toList, hl with
      | [], _ =>
        rw [hq] at cc
        have : 0 = a₀.size := cc
        lia
      | [r], _ =>
        rw [hq] at cc
        obtain ⟨c1, c2, c3, c4⟩ := cc
        have c4 : 0 + r.2.1 = a₀.size := c4
        intro i j hij hj
        exact c3 i j (Nat.zero_le _) hij (by omega)
    · have := hC1.le
      rw [Array.length_toList] at this
      omega
end
end Mine

end
section
open PySem PyProof.Rows
namespace Mine
section
variable {prog : Program} {w : World} {A : Around} {E : Value → Shared → Prop} {s : Shared}
theorem sort_long {a : Addr} {vs : List Value} {ns : List Int} {n : Nat} {P : Fin → Shared → Prop} (ho : s.heap.get? a = some (seqObj "list" vs.toArray n))
    (hI : IntsAre vs ns) (hlo : 2 ≤ vs.length) (hhi : vs.length ≤ 1000000)
    (h : ∀ (out : Array Value) (ns' : List Int), IntsAre out.toList ns' → ns'.Perm ns → ns'.Pairwise (· ≤ ·) → P (.done (.ret .none)) { s with heap := sortedHeap s.heap a vs out }) :
    wpAny (model prog w) A (Builtin.«list.sort» ⟨[.ref a], []⟩) P E s := by
  have ha : a < s.heap.objs.size := Heap.lt_size ho
  have hsz : vs.toArray.size = vs.length := by simp
  obtain ⟨e1, ho1⟩ : ∃ e1, (s.heap.update a (Obj.mapSeq fun _ => #[])).get? a = some (seqObj "list" #[] e1) := ⟨_, get?_update_seq ho (fun _ => #[])⟩
  have ho6 : (((s.heap.update a (Obj.mapSeq fun _ => #[])).push (seqObj "tuple" vs.toArray 0)).push (seqObj "list" #[] 0)).get? a = some (seqObj "list" #[] e1) := by
    rw [Heap.get?_push_ne _ _ _ (by rw [size_push', Heap.size_update]; exact Nat.ne_of_lt (Nat.lt_succ_of_lt ha)), Heap.get?_push_ne _ _ _ (by rw [Heap.size_update]; exact Nat.ne_of_lt ha), ho1]
  rw [list_sort_plain]
  refine wpAny_bind (listItems_at ho rfl (wpAny_bind (listUpdate_at ho rfl ?_ (hsz := by rw [hsz, sizeLine_eq]; omega))))
  refine wpAny_bind (seqEpoch_at ho1 rfl (wpAny_bind (wpAny_newTuple (wpAny_bind (wpAny_newList (wpAny_holding ?_))))))
  show wpAny (model prog w) A _ P E { s with heap := ((s.heap.update a (Obj.mapSeq fun _ => #[])).push (seqObj "tuple" vs.toArray 0)).push (seqObj "list" #[] 0) }
  dsimp only
  rw [if_neg (by omega), if_neg (by omega)]
  obtain ⟨v₁, v₂, rest, rfl⟩ : ∃ v₁ v₂ rest, vs = v₁ :: v₂ :: rest := by
    match vs, hlo with
    | v₁ :: v₂ :: rest, _ => exact ⟨v₁, v₂, rest, rfl⟩
  rw [keyKind_ints hI]
  refine wpAny_bind (wpAny_pure ?_)
  refine wpAny_bind (wpAny_mono (wpS_sortS (a₀ := pairsOf (v₁ :: v₂ :: rest)) (st := SortSt.mk' oneType' ((v₁ :: v₂ :: rest).toArray.zip (v₁ :: v₂ :: rest).toArray) #[] 7 none)
    (Q := fun _ st' => (arrOf st').Perm (pairsOf (v₁ :: v₂ :: rest)) ∧ failedOf st' = none ∧ SortedTo (arrOf st') (pairsOf (v₁ :: v₂ :: rest)).size)
    hI.intKeys ⟨.refl _, rfl, rfl⟩ rfl (by rw [pairsOf_size]; exact hlo) fun st' a1 a2 a3 => ⟨a1, a2, a3⟩) ?_ fun _ _ e => e)
  rintro ⟨⟨⟩, st'⟩ s' ⟨rfl, hp, hf, hs⟩
  dsimp only
  obtain ⟨ns', h1, h2, h3⟩ := sorted_out hI hp hs
  refine wpAny_bind (seqEpoch_at ho6 rfl (wpAny_bind (listUpdate_at ho6 rfl ?_ (hsz2 := ?_))))
  · rw [hf]
    simp only [bne_self_eq_false, Bool.false_eq_true, if_false]
    exact wpAny_pure (h _ ns' h1 h2 h3)
  · refine Nat.le_trans (Nat.le_of_eq ((Array.size_map ..).trans (hp.size_eq.trans (pairsOf_size _)))) ?_
    rw [sizeLine_eq]
    omega
theorem sorted_long {h₀ : Heap} {L : Addr} {m : Str → Option Value} {news : List (Addr × Obj)} {l : Addr} {vs : List Value} {ns : List Int} {Q : Value → Shared → Prop}
    (F : Fr h₀ L s.heap m) (N : News h₀ L s.heap news) (hl : s.heap.IsList l vs.toArray) (hI : IntsAre vs ns) (hlo : 2 ≤ vs.length) (hhi : vs.length ≤ 1000000)
    (h : ∀ (h' : Heap) (vs' : List Value) (ns' : List Int) (e : Nat), Fr h₀ L h' m → News h₀ L h' ((s.heap.objs.size + 1, seqObj "list" vs'.toArray e) :: news) → (∀ p ∈ news, p.1 < s.heap.objs.size + 1) →
      IntsAre vs' ns' → ns'.Perm ns → ns'.Pairwise (· ≤ ·) → Q (.ref (s.heap.objs.size + 1)) { s with heap := h' }) :
    wpAny (model prog w) A (call (.builtin "sorted") [.ref l]) Q E s := by
  refine Calls.call_function_entry kind_sorted plain_sorted entry_sorted (args_sorted1 _) ?_
  unfold Builtin.«sorted»
  refine wpAny_bind (m := checkCount "sorted" 1 1 _) (wpAny_pure ?_)
  refine wpAny_bind (collect_list hl (wpAny_bind (wpAny_newList ?_)) (hsz := by rw [sizeLine_eq]; omega))
  have hsz : ((s.heap.push (seqObj "list" #[] 0)).update s.heap.objs.size (Obj.mapSeq (· ++ vs.toArray))).objs.size = s.heap.objs.size + 1 := by
    rw [Heap.size_update, size_push']
  have hoL : (((s.heap.push (seqObj "list" #[] 0)).update s.heap.objs.size (Obj.mapSeq (· ++ vs.toArray))).push (seqObj "list" vs.toArray 0)).get? (s.heap.objs.size + 1) = some (seqObj "list" vs.toArray 0) := by
    rw [← hsz]; exact Heap.get?_push_size _ rfl
  show wpAny _ _ _ _ _ { s with heap := ((s.heap.push (seqObj "list" #[] 0)).update s.heap.objs.size (Obj.mapSeq (· ++ vs.toArray))).push (seqObj "list" vs.toArray 0) }
  rw [hsz]
  refine wpAny_bind (wpAny_holding (wpAny_call_entry slot_list_sort ⟨_, hoL, rfl⟩ entry_list_sort (sort_long hoL hI hlo hhi fun out ns' a1 a2 a3 => ⟨_, rfl, ?_⟩) (args_list_sort _)))
  obtain ⟨e, he⟩ := sortedAll_at s.heap vs out
  exact wpAny_pure ⟨_, rfl, h _ out.toList ns' e (F.kept fun _ _ => sortedAll_old) (N.kept_cons F (fun _ _ => sortedAll_old) (Nat.le_succ _) he) (fun p hp => Nat.lt_succ_of_lt (Heap.lt_size (N p hp).1)) a1 a2 a3⟩
end
theorem sorted_is {ns ms : List Int} (hp : ns.Perm ms) (hs : ns.Pairwise (· ≤ ·)) (hm : ms.Pairwise (· ≤ ·)) : ns = ms :=
  hp.eq_of_pairwise (fun _ _ _ _ h1 h2 => Int.le_antisymm h1 h2) hs hm
end Mine

end
section
open PySem PySem.W PyProof.Rows PySem.Spec PySem.Calls
namespace Mine
section
variable {prog : Program} {w : World} {A : Around} {E : Value → Shared → Prop} {s : Shared}

theorem collect_range {Q : List Value → Shared → Prop} {r : Addr} {a b c : Int} {t u v : Tok} {n : Nat} (hh : A.handled = none) (hr : IsRange s.heap r a b c t u v) (hsmall : Builtin.Range.small a b c = true)
    (hn : Builtin.Range.rangeSize a b c = n) (hlen : n ≤ 2 ^ 24)
    (hQ : ∀ h' tk acc, (∀ b o, s.heap.get? b = some o → h'.get? b = some o) → ItemsOf (fun i v => ∃ t, v = .int (a + i * c) t) acc n → Q acc.toList { s with heap := h', toks := tk }) :
    wpAny (model prog w) A (collect (.ref r)) Q E s := by
  have key : ∀ R : Result → Shared → Prop, (∀ h' tk acc' c', (∀ b o, s.heap.get? b = some o → h'.get? b = some o) → h'.get? s.heap.objs.size = some { cls := .type "list", dict := none, data := .seq acc' c', slots := #[] } →
      ItemsOf (fun i v => ∃ t, v = .int (a + i * c) t) acc' n → R (.ok (.ret (.ref s.heap.objs.size))) { s with heap := h', toks := tk }) → codeAny (model prog w) A (.builtin "proto.collect" ⟨[.ref r], []⟩) R s := by
    intro R hR
    refine codeAny_builtin F.entry_proto_collect ?_
    rw [Around.under_plainId F.plain_proto_collect _]
    show wpAny _ A.in1 (newList [] >>= fun l => again (.builtin "list.__iadd__" ⟨[l, .ref r], []⟩)) _ _ s
    refine wpAny_bind (wpAny_newObj_type ?_)
    refine wpAny_pure ⟨plainId_quiet F.plain_list_iadd _, codeAny_builtin F.entry_list_iadd ?_⟩
    rw [Around.under_plainId F.plain_list_iadd _]
    show wpAny _ A.in1 (Builtin.List.listExtendWith (.ref s.heap.objs.size) (.ref r) (.ref s.heap.objs.size)) _ _ _
    have hS : (s.heap.push { cls := .type "list", data := .seq ([] : List Value).toArray }).get? s.heap.objs.size = some { cls := .type "list", data := .seq #[] } := Heap.get?_push_size _ rfl
    refine wpAny_extend_range (R := R) (s := { s with heap := s.heap.push { cls := .type "list", data := .seq ([] : List Value).toArray } }) (n := n) hh (Heap.get?_push_of_some _ hr) hsmall hn hlen s.heap.objs.size (.ref s.heap.objs.size) _ hS fun h' tk acc' c' hk hS' hacc => ?_
    exact hR h' tk acc' c' (fun b o e => hk b o (Nat.ne_of_lt (Heap.lt_size e)) (Heap.get?_push_of_some _ e)) hS' hacc
  unfold collect
  refine wpAny_bind (wpAny_runValue (key _ fun h' tk acc' c' hk hS' hacc => ?_))
  show wpAny _ A (load s.heap.objs.size >>= _) _ _ _
  refine wpAny_bind (wpAny_load hS' ?_)
  exact wpAny_pure (hQ h' tk acc' hk hacc)

theorem call_tuple_range {Q : Value → Shared → Prop} {r : Addr} {a b c : Int} {t u v : Tok} {n : Nat} (hh : A.handled = none) (hr : IsRange s.heap r a b c t u v) (hsmall : Builtin.Range.small a b c = true)
    (hn : Builtin.Range.rangeSize a b c = n) (hlen : n ≤ 2 ^ 24)
    (h : ∀ (h' : Heap) (tk : Nat) (acc : Array Value), (∀ b o, s.heap.get? b = some o → h'.get? b = some o) → ItemsOf (fun i v => ∃ t, v = .int (a + i * c) t) acc n → Q (.ref h'.objs.size) { s with heap := h'.push { cls := .type "tuple", data := .seq acc }, toks := tk }) :
    wpAny (model prog w) A (call (.type "tuple") [.ref r]) Q E s := by
  refine callType_codes (Q₁ := fun obj s₁ => s₁.TypeIs obj "tuple" ∧ Q obj s₁) F.called_tuple (F.typeCall_tuple_1 _) F.entry_object_init ?_ fun obj s₁ h₁ => ?_
  · refine codeAny_of_tree ?_
    show wpAny _ A.in1.in1 (do checkBuiltinCall "tuple.__new__" ⟨[.type "tuple", .ref r], []⟩; again (.builtin "tuple.__new__" ⟨[.type "tuple", .ref r], []⟩)) _ _ s
    refine wpAny_bind (wpAny_of_eq (F.newCall_tuple_1 _) (wpAny_pure ⟨plainId_quiet F.plain_tuple_new _, codeAny_builtin F.entry_tuple_new ?_⟩))
    rw [Around.under_plainId F.plain_tuple_new _]
    have hsub := sub_tuple_self
    have hinit := init_tuple_lookup
    have hmh := madeHere_tuple
    have hTI : s.TypeIs (.ref r) "range" := ⟨_, hr, rfl⟩
    have hh1 : A.in1.in1.handled = none := hh
    have hh2 : A.in1.in1.in1.handled = none := hh
    obtain ⟨hp, g, d, tk, os⟩ := s
    wp_walk using wpAny_typeOf hTI, collect_range hh1 hr hsmall hn hlen
    intro h' tk' acc hm hacc
    show wpAny _ _ (Builtin.Tuple.tupleExact acc.toList.toArray >>= fun v => ret v) _ _ _
    unfold Builtin.Tuple.tupleExact
    refine wpAny_bind (wpAny_newObj_type ?_ (by show acc.toList.toArray.size ≤ sizeLine; simp only [Array.toArray_toList]; rw [hacc.1, sizeLine_eq]; omega))
    refine wpAny_pure ?_
    have e : acc.toList.toArray = acc := by simp
    rw [e]
    exact ⟨⟨_, Heap.get?_push_size _ rfl, rfl⟩, h h' tk' acc hm hacc⟩
  · exact ⟨h₁.1, F.args_object_init_2 obj _, object_init_meets F.called_tuple.init.lookup F.called_tuple.made (by decide) prog w A.in1 _ s₁ ⟨h₁.1, rfl, h₁.2⟩⟩
end
end Mine

end
section
open PySem PySem.W PyProof.Rows PySem.Spec PySem.Calls PySem.NumText
namespace Mine
noncomputable def numVal (x : (int_private% "Numeral")) : Option Int := (int_private% "Numeral.rec") none (fun _ => none) none (fun i => some i) x
noncomputable def rdB (b : Nat) (x : PySem.Str) : Option Int :=
  if ((numSeenOf x).length == (numTextOf x).length) = true ∧ x.length ≤ 640 then numVal ((int_private% "readNumeral") 0 b (numSeenOf x)) else none
theorem numVal_is {x : (int_private% "Numeral")} {n : Int} (h : numVal x = some n) : x = (int_private% "Numeral.value") n := by
  cases x with
  | value i => injection h with h; rw [h]
  | _ => cases h
theorem rdB_is {b : Nat} {x : PySem.Str} {n : Int} (h : rdB b x = some n) : ((numSeenOf x).length ≤ 640 ∧ (int_private% "readNumeral") 0 b (numSeenOf x) = (int_private% "Numeral.value") n ∧ ((numSeenOf x).length == (numTextOf x).length) = true) := by
  unfold rdB at h
  split at h
  · rename_i hc
    exact ⟨Nat.le_trans (seen_length x) hc.2, numVal_is h, hc.1⟩
  · cases h

theorem wp_textB {M : Model} {A : Around} {E : Value → Shared → Prop} {s : Shared} {Q : Value → Shared → Prop} {v : Value} {text : List Nat} {n : Int} {b : Nat}
    (hs : (text.takeWhile (· != 0)).length ≤ 640) (hr : (int_private% "readNumeral") 0 b (text.takeWhile (· != 0)) = (int_private% "Numeral.value") n)
    (ha : ((text.takeWhile (· != 0)).length == text.length) = true) (h : Q (.int n s.toks) { s with toks := s.toks + 1 }) :
    wpAny M A ((int_private% "intFromText") v text b) Q E s := by
  obtain ⟨hp, g, d, tk, os⟩ := s
  repeat (any_goals (first
    | assumption
    | (with_reducible refine wpAny_ite_true (decide_eq_true hs) ?_)
    | (with_reducible refine wpAny_ite_true (decide_eq_true ha) ?_)
    | wp_step))
  all_goals (try rw [hr])
  all_goals (try dsimp only)
  repeat (any_goals (first
    | assumption
    | (with_reducible refine wpAny_ite_true (decide_eq_true hs) ?_)
    | (with_reducible refine wpAny_ite_true (decide_eq_true ha) ?_)
    | wp_step))
theorem typeCall_int_2 (a b : Value) : checkTypeCall "int" ⟨[a, b], []⟩ = pure () := by kernel_rfl
theorem newCall_int_2 (a b : Value) : checkBuiltinCall "int.__new__" ⟨[.type "int", a, b], []⟩ = pure () := by kernel_rfl
set_option maxHeartbeats 4000000 in
theorem gives_textB {x : PySem.Str} {u ub : Tok} {n : Int} {b : Nat} (hb : b = 2 ∨ b = 16) (hn : rdB b x = some n) : Gives (Builtin.«int.__new__» ⟨[.type "int", .str x u, .int (b : Int) ub], []⟩) (.int n) :=
  .of_wp fun M A E s Q h => by
    obtain ⟨hp, g, d, tk, os⟩ := s
    have f1 := F.conv_sub_int
    have f2 := F.madeHere_int
    have f3 := KIN.str_int
    have f4 := KIN.str_idx
    have f5 := KIN.str_trunc
    have f6 : typeOf (.str x u) = pure (.type "str") := rfl
    have hk := KIN.Hid.mk (rdB_is hn)
    clear hn
    rcases hb with rfl | rfl
    all_goals (repeat (any_goals (first
      | assumption
      | ((with_reducible show wpAny _ _ ((int_private% "intFromText") _ _ _) _ _ _); refine wp_textB hk.out.1 hk.out.2.1 hk.out.2.2 ?_)
      | wp_step)))
    all_goals first | exact ⟨_, rfl, h⟩ | skip
theorem args_oi3 (obj a b : Value) : argsOk "object.__init__" ⟨[obj, a, b], []⟩ := by kernel_rfl
section
variable {prog : Program} {w : World} {A : Around} {E : Value → Shared → Prop} {s : Shared}
theorem call_intB {x : PySem.Str} {u ub : Tok} {n : Int} {b : Nat} (hb : b = 2 ∨ b = 16) (hn : rdB b x = some n) {Q : Value → Shared → Prop} (h : Q (.int n s.toks) { s with toks := s.toks + 1 }) :
    wpAny (model prog w) A (call (.type "int") [.str x u, .int (b : Int) ub]) Q E s :=
  callType_new F.called_int F.newNe_int (typeCall_int_2 _ _) (newCall_int_2 _ _) (fun obj => args_oi3 obj _ _) F.entry_int_new (gives_textB hb hn).meets (show (Made.int n).post _ s from ⟨rfl, h⟩)
end
end Mine

end
section
open PySem PySem.W PyProof.Rows PySem.Spec PySem.Calls
open PyProof.Rows.LCg PyProof.Rows.LCt
namespace Mine
section
variable {prog : Program} {w : World} {A : Around} {E : Value → Shared → Prop} {s : Shared} {h₀ : Heap} {L : Addr} {m : Str → Option Value} {env : Env}

/-- a comprehension's iterator, whatever its kind, and what the turns ask -/
noncomputable def IterAt (prog : Program) (w : World) (A : Around) (h₀ : Heap) (L : Addr) (m : Str → Option Value) (Rest : Shared → (List (Addr × Obj) → Prop) → (Nat → Value → Prop) → Nat → List (Addr × Obj) → Prop) (it : Value) (s₂ : Shared) : Prop :=
  ∃ (I : Addr) (fp : List Addr) (n : Nat) (P : Nat → Value → Prop) (St : Nat → Heap → Prop) (S : List (Addr × Obj) → Prop) (news : List (Addr × Obj)),
    it = .ref I ∧ Walks prog w A I fp [I] n P St ∧ n ≤ sizeLine ∧ (∀ i h, St i h → ∃ o, h.get? I = some o) ∧
    (∀ i h h' o nw, St i h → h.get? I = some o → h'.get? I = some o → (∀ b o, h₀.get? b = some o → h'.get? b = some o) → News h₀ L h' nw → S nw → St i h') ∧ St 0 s₂.heap ∧ (∀ b ∈ fp, b < s₂.heap.objs.size) ∧
    Fr h₀ L s₂.heap m ∧ News h₀ L s₂.heap news ∧ L ≠ I ∧ h₀.get? I = none ∧ (∀ p ∈ news, p.1 ≠ I) ∧ S news ∧ Rest s₂ S P n news

abbrev RestU (prog : Program) (w : World) (A : Around) (h₀ : Heap) (L : Addr) (m : Str → Option Value) (env : Env) (elt : Expr) (x : Str) (scope : Scope) (cl : List (Str × Addr)) (Fin : Shared → List Value → List (Addr × Obj) → Prop) (s₂ : Shared) (S : List (Addr × Obj) → Prop) (P : Nat → Value → Prop) (n : Nat) (news : List (Addr × Obj)) : Prop :=
  CompRest prog w A h₀ L m env elt x scope cl s₂ S P (Fin s₂) n 0 [] news
abbrev RestT (prog : Program) (w : World) (A : Around) (h₀ : Heap) (L : Addr) (m : Str → Option Value) (env : Env) (ct elt : Expr) (x : Str) (scope : Scope) (cl : List (Str × Addr)) (Fin : Shared → List Value → List (Addr × Obj) → Prop) (s₂ : Shared) (S : List (Addr × Obj) → Prop) (P : Nat → Value → Prop) (n : Nat) (news : List (Addr × Obj)) : Prop :=
  CompRestT prog w A h₀ L m env ct elt x scope cl s₂ S P (Fin s₂) n 0 [] news

theorem comp_U {elt iter : Expr} {x : Str} {px : Pos} {scope : Scope} {cl : List (Str × Addr)} {pos : Pos} {Q : Value → Shared → Prop}
    (_F₀ : Fr h₀ L s.heap m) (hclos : closureFor scope env = pure cl) (hcell : ∀ y ∈ scope.names, y.2 ≠ .cell) (hkind : scope.kind = .function)
    (hnames : ∀ y ∈ scope.names, y.2 = .local → scope.names.lookup y.1 = some .local) (hx : scope.names.lookup x = some .local)
    (h : wpAny (model prog w) A (eval iter env) (fun xv s₁ => wpAny (model prog w) A (pyIter xv) (IterAt prog w A h₀ L m (RestU prog w A h₀ L m env elt x scope cl (fun s₂ => FinE h₀ L m s₂ Q))) E s₁) E s)
    (hs : ∀ x, foldedSetIterable iter env x = pure x) :
    wpAny (model prog w) A (eval (.ListComp elt [⟨.Name x px, iter, [], 0⟩] scope pos) env) Q E s := by
  rw [eval_ListComp]
  refine wpAny_comprehension_free (use := none) rfl hs hclos hkind hnames (wpAny_mono h (fun xv s₁ h₁ => wpAny_mono h₁ (fun it s₂ h₂ => ?_) fun _ _ e => e) fun _ _ e => e)
  obtain ⟨I, fp, n, P, St, S, news, rfl, W, hsz, hIo, hSt, hst, hfp, F, N, hIL, hI0, off, hS, R⟩ := h₂
  refine block_U W hsz hIo hSt hcell hkind hx hst hfp F N hIL hI0 off hS R ?_
  intro D C h tk m' ys news' F' N' o1 hn hC₀ hD₀ hCL hDL hCD offC fin
  refine ⟨m', hn, fun h'' hs'' => fin D h'' tk (F'.change hs'' hCL hC₀) (fun p hp => ?_) o1⟩
  refine ⟨hs''.extBut _ _ ?_ (N' p hp).1, (N' p hp).2⟩
  rcases List.mem_cons.mp hp with rfl | hp
  · exact Ne.symm hCD
  · exact offC p hp
theorem comp_T {ct elt iter : Expr} {x : Str} {px : Pos} {scope : Scope} {cl : List (Str × Addr)} {pos : Pos} {Q : Value → Shared → Prop}
    (_F₀ : Fr h₀ L s.heap m) (hclos : closureFor scope env = pure cl) (hcell : ∀ y ∈ scope.names, y.2 ≠ .cell) (hkind : scope.kind = .function)
    (hnames : ∀ y ∈ scope.names, y.2 = .local → scope.names.lookup y.1 = some .local) (hx : scope.names.lookup x = some .local)
    (h : wpAny (model prog w) A (eval iter env) (fun xv s₁ => wpAny (model prog w) A (pyIter xv) (IterAt prog w A h₀ L m (RestT prog w A h₀ L m env ct elt x scope cl (fun s₂ => FinE h₀ L m s₂ Q))) E s₁) E s)
    (hs : ∀ x, foldedSetIterable iter env x = pure x) :
    wpAny (model prog w) A (eval (.ListComp elt [⟨.Name x px, iter, [ct], 0⟩] scope pos) env) Q E s := by
  rw [eval_ListComp]
  refine wpAny_comprehension_free (use := none) rfl hs hclos hkind hnames (wpAny_mono h (fun xv s₁ h₁ => wpAny_mono h₁ (fun it s₂ h₂ => ?_) fun _ _ e => e) fun _ _ e => e)
  obtain ⟨I, fp, n, P, St, S, news, rfl, W, hsz, hIo, hSt, hst, hfp, F, N, hIL, hI0, off, hS, R⟩ := h₂
  refine block_T W hsz hIo hSt hcell hkind hx hst hfp F N hIL hI0 off hS R ?_
  intro D C h tk m' ys news' F' N' o1 hn hC₀ hD₀ hCL hDL hCD offC fin
  refine ⟨m', hn, fun h'' hs'' => fin D h'' tk (F'.change hs'' hCL hC₀) (fun p hp => ?_) o1⟩
  refine ⟨hs''.extBut _ _ ?_ (N' p hp).1, (N' p hp).2⟩
  rcases List.mem_cons.mp hp with rfl | hp
  · exact Ne.symm hCD
  · exact offC p hp

variable {Rest : Shared → (List (Addr × Obj) → Prop) → (Nat → Value → Prop) → Nat → List (Addr × Obj) → Prop}
theorem at_list {ax : Addr} {its : Array Value} {news : List (Addr × Obj)} (hh : A.handled = none) (F : Fr h₀ L s.heap m) (N : News h₀ L s.heap news) (S : SrcAt h₀ ax its news) (hsz : its.size ≤ sizeLine)
    (h : ∀ g, Rest { s with heap := g } (SrcAt h₀ ax its) (fun i v => its[i]? = some v) its.size news) : wpAny (model prog w) A (pyIter (.ref ax)) (IterAt prog w A h₀ L m Rest) E s := by
  have hl := S.list F.keep N
  have hlt : ax < s.heap.objs.size := by obtain ⟨_, e, _⟩ := hl; exact Heap.lt_size e
  have up : ∀ b o, s.heap.get? b = some o → (s.heap.push { cls := .type "list_iterator", data := .fields #[.ref ax, .int 0 0] }).get? b = some o := fun b o e => Heap.get?_push_of_some _ e
  refine wpAny_pyIter_list hl ⟨_, _, _, _, _, _, news, rfl, Walks.list hh s.heap.objs.size ax (Nat.ne_of_lt hlt) its, hsz, (fun i h st => by obtain ⟨o, e, _⟩ := st.1; exact ⟨o, e⟩), list_st, ⟨⟨_, Heap.get?_push_size _ rfl, rfl, rfl⟩, hl.push _⟩, (fun b hb => ?_),
      F.keeps up, N.grown up, Nat.ne_of_lt F.ns.lt, next_is_new F, (fun p hp => Nat.ne_of_lt (Heap.lt_size (N p hp).1)), S, h _⟩
  show b < (s.heap.push _).objs.size
  rw [Heap.size_push]
  rcases List.mem_cons.mp hb with rfl | hb
  · exact Nat.lt_succ_self _
  · rw [List.mem_singleton.mp hb]; exact Nat.lt_succ_of_lt hlt

noncomputable def TupSrc (h₀ : Heap) (ax : Addr) (its : Array Value) (news : List (Addr × Obj)) : Prop := h₀.IsTuple ax its ∨ ∃ o, (ax, o) ∈ news ∧ o.cls = .type "tuple" ∧ ∃ n, o.data = .seq its n
theorem TupSrc.tup {h : Heap} {ax : Addr} {its : Array Value} {news : List (Addr × Obj)} (x : TupSrc h₀ ax its news) (k : ∀ b o, h₀.get? b = some o → h.get? b = some o) (N : News h₀ L h news) : h.IsTuple ax its := by
  rcases x with ⟨o, e, r⟩ | ⟨o, hm, r⟩
  · exact ⟨o, k _ _ e, r⟩
  · exact ⟨o, (N _ hm).1, r⟩
theorem at_tuple {ax : Addr} {its : Array Value} {news : List (Addr × Obj)} (hh : A.handled = none) (F : Fr h₀ L s.heap m) (N : News h₀ L s.heap news) (S : TupSrc h₀ ax its news) (hsz : its.size ≤ sizeLine)
    (h : ∀ g, Rest { s with heap := g } (TupSrc h₀ ax its) (fun i v => its[i]? = some v) its.size news) : wpAny (model prog w) A (pyIter (.ref ax)) (IterAt prog w A h₀ L m Rest) E s := by
  have hl := S.tup F.keep N
  have hlt : ax < s.heap.objs.size := by obtain ⟨_, e, _⟩ := hl; exact Heap.lt_size e
  have up : ∀ b o, s.heap.get? b = some o → (s.heap.push { cls := .type "tuple_iterator", data := .fields #[.ref ax, .int 0 0] }).get? b = some o := fun b o e => Heap.get?_push_of_some _ e
  refine wpAny_pyIter_tuple hl ⟨_, _, _, _, _, _, news, rfl, Walks.tuple hh s.heap.objs.size ax (Nat.ne_of_lt hlt) its, hsz, (fun i h st => by obtain ⟨o, e, _⟩ := st.1; exact ⟨o, e⟩),
      (fun i h h' o nw st e e' k N S => ⟨by obtain ⟨o', q, r⟩ := st.1; rw [e] at q; cases q; exact ⟨o, e', r⟩, S.tup k N⟩), ⟨⟨_, Heap.get?_push_size _ rfl, rfl, rfl⟩, by obtain ⟨o, e, r⟩ := hl; exact ⟨o, up _ _ e, r⟩⟩, (fun b hb => ?_),
      F.keeps up, N.grown up, Nat.ne_of_lt F.ns.lt, next_is_new F, (fun p hp => Nat.ne_of_lt (Heap.lt_size (N p hp).1)), S, h _⟩
  show b < (s.heap.push _).objs.size
  rw [Heap.size_push]
  rcases List.mem_cons.mp hb with rfl | hb
  · exact Nat.lt_succ_self _
  · rw [List.mem_singleton.mp hb]; exact Nat.lt_succ_of_lt hlt
theorem at_range {r : Addr} {a b c : Int} {t u v : Tok} {n : Nat} {news : List (Addr × Obj)} (hh : A.handled = none) (F : Fr h₀ L s.heap m) (N : News h₀ L s.heap news) (hr : IsRange s.heap r a b c t u v) (hsm : Builtin.Range.small a b c = true)
    (hn : Builtin.Range.rangeSize a b c = ((n : Nat) : Int)) (hsz : n ≤ sizeLine)
    (h : ∀ g, Rest { s with heap := g } (fun _ => True) (fun i v => ∃ t, v = .int (a + (i : Int) * c) t) n news) : wpAny (model prog w) A (pyIter (.ref r)) (IterAt prog w A h₀ L m Rest) E s := by
  refine wpAny_pyIter_range hr hsm ⟨_, _, _, _, _, _, news, rfl, Walks.range hh s.heap.objs.size a c n, hsz, (fun i h st => ⟨_, st⟩), ?_, (by show IsRangeIter _ _ _ _ _; rw [hn]; simpa using Heap.get?_push_size _ rfl), (fun b hb => ?_),
      F.keeps (fun _ _ e => Heap.get?_push_of_some _ e), N.grown (fun _ _ e => Heap.get?_push_of_some _ e), Nat.ne_of_lt F.ns.lt, next_is_new F, (fun p hp => Nat.ne_of_lt (Heap.lt_size (N p hp).1)), trivial, h _⟩
  · intro i h h' o nw st e e' _ _ _
    have st' : h.get? s.heap.objs.size = some _ := st
    show h'.get? s.heap.objs.size = some _
    rw [e', ← e]; exact st'
  · rw [List.mem_singleton.mp hb]
    show s.heap.objs.size < (s.heap.push _).objs.size
    rw [Heap.size_push]; exact Nat.lt_succ_self _
end

theorem ints_of {vs : List Value} {ns : List Int} (hl : vs.length = ns.length) (h : ∀ (i : Nat) v, vs[i]? = some v → ∃ k t, ns[i]? = some k ∧ v = .int k t) : IntsAre vs ns := by
  refine kdy_ints hl fun j v hv => ?_
  obtain ⟨k, t, h1, h2⟩ := h j v hv
  exact ⟨k, h1, t, h2⟩

section
variable {prog : Program} {w : World} {A : Around} {h₀ : Heap} {L : Addr} {m : Str → Option Value} {env : Env} {ct elt : Expr} {x : Str} {scope : Scope} {cl : List (Str × Addr)} {s : Shared} {S : List (Addr × Obj) → Prop} {P : Nat → Value → Prop} {Fin : List Value → List (Addr × Obj) → Prop} {news : List (Addr × Obj)}

/-- all elements are ints: the list ks -/
theorem rest_ints {n : Nat} {ks : List Int} (hks : ks.length = n)
    (turn : ∀ i v I oI C oC D m₂ ys h tk (E' : Value → Shared → Prop), i < n → P i v → NsObj oC m₂ → m₂ x = some v → Fr h₀ L h m → News h₀ L h ((I, oI) :: (C, oC) :: (D, lst ys) :: news) → Off3 I C D news → ((@Ne Nat I C) ∧ (@Ne Nat I D) ∧ (@Ne Nat C D)) →
      wpAny (model prog w) A (eval elt (compEnvC scope cl C env)) (CompEnd h₀ L m { s with heap := h, toks := tk } I oI C oC D (lst ys) S (fun y news' => news' = news ∧ ∃ k t, ks[i]? = some k ∧ y = .int k t)) E' { s with heap := h, toks := tk })
    (fin : ∀ ys, IntsAre ys ks → Fin ys news) : CompRest prog w A h₀ L m env elt x scope cl s S P Fin n 0 [] news := by
  have key : ∀ (j i : Nat) (ys : List Value), i + j = n → IntsAre ys (ks.take i) → CompRest prog w A h₀ L m env elt x scope cl s S P Fin j i ys news := by
    intro j
    induction j with
    | zero =>
      intro i ys hi hy
      have e : i = ks.length := by omega
      subst e
      rw [List.take_length] at hy
      exact CompRest.zero (fin ys hy)
    | succ j ih =>
      intro i ys hi hy
      refine CompRest.succ ?_
      intro v I oI C oC D m₂ h tk E' hv hC hx F N off ne
      refine wpAny_mono (turn i v I oI C oC D m₂ ys h tk E' (by omega) hv hC hx F N off ne) (fun y s₂ hq => ?_) fun _ _ e => e
      obtain ⟨h', tk', nw, e, F', N', off', hS, hn, k, t', hk, hy'⟩ := hq
      rw [hn] at N' off' hS
      refine ⟨h', tk', news, e, F', N', off', hS, ?_⟩
      rw [hy']
      refine ih (i + 1) _ (by omega) ?_
      rw [List.take_add_one, hk]
      exact IntsAre.append hy (.cons k t' .nil)
  exact key n 0 [] (by omega) (by simp only [List.take_zero]; exact .nil)

/-- the ints that pass the test -/
theorem rest_filter {n : Nat} {ks : List Int} (q : Int → Bool) (hks : ks.length = n) (hP : ∀ i v, i < n → P i v → ∃ k t, ks[i]? = some k ∧ v = .int k t)
    (turn : ∀ k t I oI C oC D m₂ ys h tk (E' : Value → Shared → Prop), k ∈ ks → NsObj oC m₂ → m₂ x = some (.int k t) → Fr h₀ L h m → News h₀ L h ((I, oI) :: (C, oC) :: (D, lst ys) :: news) → Off3 I C D news → ((@Ne Nat I C) ∧ (@Ne Nat I D) ∧ (@Ne Nat C D)) →
      wpAny (model prog w) A (isTrue ct (compEnvC scope cl C env) (eval ct (compEnvC scope cl C env))) (fun ok s' => if ok = true then
        wpAny (model prog w) A (eval elt (compEnvC scope cl C env)) (CompEnd h₀ L m { s with heap := h, toks := tk } I oI C oC D (lst ys) S (fun y news' => news' = news ∧ q k = true ∧ ∃ t, y = .int k t)) E' s'
        else CompEnd h₀ L m { s with heap := h, toks := tk } I oI C oC D (lst ys) S (fun _ news' => news' = news ∧ q k = false) Value.none s') E' { s with heap := h, toks := tk })
    (fin : ∀ ys, IntsAre ys (ks.filter q) → Fin ys news) : CompRestT prog w A h₀ L m env ct elt x scope cl s S P Fin n 0 [] news := by
  have key : ∀ (j i : Nat) (ys : List Value), i + j = n → IntsAre ys ((ks.take i).filter q) → CompRestT prog w A h₀ L m env ct elt x scope cl s S P Fin j i ys news := by
    intro j
    induction j with
    | zero =>
      intro i ys hi hy
      have e : i = ks.length := by omega
      subst e
      rw [List.take_length] at hy
      exact CompRestT.zero (fin ys hy)
    | succ j ih =>
      intro i ys hi hy
      refine CompRestT.succ ?_
      intro v I oI C oC D m₂ h tk E' hv hC hx F N off ne
      obtain ⟨k, t, hk, rfl⟩ := hP i v (by omega) hv
      refine wpAny_mono (turn k t I oI C oC D m₂ ys h tk E' (List.mem_of_getElem? hk) hC hx F N off ne) (fun ok s₂ hq => ?_) fun _ _ e => e
      cases ok with
      | true =>
        simp only [if_true] at hq ⊢
        refine wpAny_mono hq (fun y s₃ hq => ?_) fun _ _ e => e
        obtain ⟨h', tk', nw, e, F', N', off', hS, hn, hqk, t', hy'⟩ := hq
        rw [hn] at N' off' hS
        refine ⟨h', tk', news, e, F', N', off', hS, ?_⟩
        rw [hy']
        refine ih (i + 1) _ (by omega) ?_
        rw [List.take_add_one, hk, List.filter_append]
        simp only [Option.toList_some, List.filter_cons, hqk, if_true, List.filter_nil]
        exact IntsAre.append hy (.cons k t' .nil)
      | false =>
        simp only [Bool.false_eq_true, if_false] at hq ⊢
        obtain ⟨h', tk', nw, e, F', N', off', hS, hn, hqk⟩ := hq
        rw [hn] at N' off' hS
        refine ⟨h', tk', news, e, F', N', off', hS, ?_⟩
        refine ih (i + 1) _ (by omega) ?_
        rw [List.take_add_one, hk, List.filter_append]
        simp only [Option.toList_some, List.filter_cons, hqk, Bool.false_eq_true, if_false, List.filter_nil, List.append_nil]
        exact hy
  exact key n 0 [] (by omega) (by simp only [List.take_zero, List.filter_nil]; exact .nil)
end
end Mine

end
section
open PySem PySem.W PyProof.Rows PySem.Spec PySem.Calls
open PyProof.Rows.LCg PyProof.Rows.LCt
namespace Mine
/-- between the turns: a state c, its ledger, its names, and what holds of it -/
noncomputable def LpS {σ : Type} (Led : σ → List (Addr × Obj)) (ps : σ → List (Str × Value)) (x : Str) (stored : List Str) (m₀ : Str → Option Value) (P : Nat → σ → Prop) (i : Nat) (m : Str → Option Value) (nx : List (Addr × Obj)) : Prop :=
  ∃ c : σ, nx = Led c ∧ (∀ p ∈ ps c, m p.1 = some p.2) ∧ (∀ z, z ≠ x → (∀ p ∈ ps c, z ≠ p.1) → stored.contains z = false → m z = m₀ z) ∧ P i c
section
variable {prog : Program} {w : World} {A : Around} {E : Value → Shared → Prop} {s : Shared} {env : Env} {h₀ : Heap} {x : Str} {body : List Stmt} {Q : Flow → Shared → Prop}

theorem lp_end {σ : Type} {Led : σ → List (Addr × Obj)} {ps : σ → List (Str × Value)} {stored : List Str} {m₀ : Str → Option Value} {P : Nat → σ → Prop} {i : Nat} (c : σ) {L : Addr} {m' : Str → Option Value} {own news' : List (Addr × Obj)} {s₁ : Shared} {h' : Heap} {tk : Nat}
    (F : Fr h₀ L h' m') (N : News h₀ L h' news') (hn : ∀ p ∈ Led c, p ∈ news') (ho : ∀ p ∈ own, p ∈ news') (ha : OwnOff own ((Led c).map (·.1))) (hk : ∀ p ∈ ps c, m' p.1 = some p.2) (hr : ∀ z, z ≠ x → (∀ p ∈ ps c, z ≠ p.1) → stored.contains z = false → m' z = m₀ z) (hp : P i c) :
    InvEndG h₀ L (LpS Led ps x stored m₀ P i) own s₁ { s₁ with heap := h', toks := tk } :=
  InvEndG.intro F N ⟨c, rfl, hk, hr, hp⟩ ha hn ho

theorem lp_end2 {σ : Type} {Led : σ → List (Addr × Obj)} {ps : σ → List (Str × Value)} {stored : List Str} {m₀ : Str → Option Value} {P : Nat → σ → Prop} {i : Nat} (c : σ) {L : Addr} {m' : Str → Option Value} {own news' : List (Addr × Obj)} {s₁ : Shared} {h' : Heap} {tk : Nat}
    (F : Fr h₀ L h' m') (N : News h₀ L h' news') (hk : ∀ p ∈ ps c, m' p.1 = some p.2) (hn : ∀ p ∈ Led c, p ∈ news') (ho : ∀ p ∈ own, p ∈ news') (ha : OwnOff own ((Led c).map (·.1))) (hr : ∀ z, z ≠ x → (∀ p ∈ ps c, z ≠ p.1) → stored.contains z = false → m' z = m₀ z) (hp : P i c) :
    InvEndG h₀ L (LpS Led ps x stored m₀ P i) own s₁ { s₁ with heap := h', toks := tk } := lp_end c F N hn ho ha hk hr hp
theorem all_two {a b : Str × Value} {R : Str × Value → Prop} (h1 : R a) (h2 : R b) : ∀ p ∈ [a, b], R p := fun p hp => by
  rcases List.mem_cons.mp hp with rfl | hp
  · exact h1
  · obtain rfl := List.mem_singleton.mp hp; exact h2
theorem lp_range {σ : Type} {r : Addr} {a₀ b₀ c₁ : Int} {t₀ u₀ v₀ : Tok} {n : Nat} {m₀ : Str → Option Value} {news : List (Addr × Obj)} (Led : σ → List (Addr × Obj)) (ps : σ → List (Str × Value)) (stored : List Str) (P : Nat → σ → Prop) (c₀ : σ)
    (hh : A.handled = none) (hr : IsRange s.heap r a₀ b₀ c₁ t₀ u₀ v₀) (hsmall : Builtin.Range.small a₀ b₀ c₁ = true) (hn : Builtin.Range.rangeSize a₀ b₀ c₁ = (n : Int)) (F : Fr h₀ env.locals s.heap m₀) (N : News h₀ env.locals s.heap news) (hled : ∀ p ∈ Led c₀, p ∈ news) (hk : ∀ p ∈ ps c₀, m₀ p.1 = some p.2) (hp : P 0 c₀)
    (turn : ∀ (c : σ) (i : Nat) t (u : Str → Option Value) h tk own, i < n → OwnOff own ((Led c).map (·.1)) → P i c →
      Fr h₀ env.locals h (fun y => if y = x then some (.int (a₀ + (i : Int) * c₁) t) else kstB (fun z => if stored.contains z then u z else m₀ z) (ps c) y) → News h₀ env.locals h (Led c ++ own) →
      wpAny (model prog w) A (execs body env) (InvPostG h₀ env.locals (LpS Led ps x stored m₀ P (i + 1)) own { s with heap := h, toks := tk } Q) E { s with heap := h, toks := tk })
    (done : ∀ (c : σ) (u : Str → Option Value) h tk, P n c → Fr h₀ env.locals h (fun y => if y = x then u y else kstB (fun z => if stored.contains z then u z else m₀ z) (ps c) y) → News h₀ env.locals h (Led c) → Q .next { s with heap := h, toks := tk }) :
    wpAny (model prog w) A (pyIter (.ref r)) (fun it s₂ => LoopAtV prog w A h₀ env x body Q E it s₂) E s := by
  refine wpAny_pyIter_range hr hsmall ?_
  have W : Walks prog w A s.heap.objs.size [s.heap.objs.size] [s.heap.objs.size] n (fun i v => ∃ t, v = .int (a₀ + i * c₁) t)
      (fun i h => IsRangeIter h s.heap.objs.size (a₀ + (i : Nat) * c₁) ((n : Int) - (i : Nat)) c₁) := (Walks.range hh _ a₀ c₁ n)
  refine kdr_loop (news := Led c₀) (fun i m nx => LpS Led ps x stored m₀ P i m nx) W (fun _ h => h) (fun _ h => h) ?_ ?_ ?_ ?_ (by show IsRangeIter _ _ _ _ _; rw [hn]; simpa using Heap.get?_push_size _ rfl) (F.push _) (fun p hp => ⟨Heap.get?_push_of_some _ (N p (hled p hp)).1, (N p (hled p hp)).2⟩) ⟨c₀, rfl, hk, fun _ _ _ _ => rfl, hp⟩ ?_ ?_
  · intro i h hi b hb
    rw [List.mem_singleton.mp hb]
    exact ⟨_, hi⟩
  · intro hm
    exact absurd F.ns.lt ((List.mem_singleton.mp hm) ▸ Nat.lt_irrefl _)
  · intro b hb
    rw [List.mem_singleton.mp hb]
    exact next_is_new F
  · intro p hp hI
    exact absurd (Heap.lt_size (N p (hled p hp)).1) ((List.mem_singleton.mp hI) ▸ Nat.lt_irrefl _)
  · rintro i v m₁ nx h tk own hi ⟨t, rfl⟩ hoff ⟨c, rfl, h1, h2, hp'⟩ F₁ N₁
    exact turn c i t m₁ h tk own hi hoff hp' (kst_fr h1 h2 F₁) N₁
  · rintro m₁ nx h tk ⟨c, rfl, h1, h2, hp'⟩ F₁ N₁
    exact done c m₁ h tk hp' (kst_frOut h1 h2 F₁) N₁

/-- over a tuple that stands in the base -/
theorem lp_tup {σ : Type} {l : Addr} {vs : List Value} {m₀ : Str → Option Value} {news : List (Addr × Obj)} (Led : σ → List (Addr × Obj)) (ps : σ → List (Str × Value)) (stored : List Str) (P : Nat → σ → Prop) (c₀ : σ)
    (hh : A.handled = none) (hl : h₀.IsTuple l vs.toArray) (F : Fr h₀ env.locals s.heap m₀) (N : News h₀ env.locals s.heap news) (hled : ∀ p ∈ Led c₀, p ∈ news) (hk : ∀ p ∈ ps c₀, m₀ p.1 = some p.2) (hp : P 0 c₀)
    (turn : ∀ (c : σ) (i : Nat) v (u : Str → Option Value) h tk own, vs[i]? = some v → OwnOff own ((Led c).map (·.1)) → P i c →
      Fr h₀ env.locals h (fun y => if y = x then some v else kstB (fun z => if stored.contains z then u z else m₀ z) (ps c) y) → News h₀ env.locals h (Led c ++ own) →
      wpAny (model prog w) A (execs body env) (InvPostG h₀ env.locals (LpS Led ps x stored m₀ P (i + 1)) own { s with heap := h, toks := tk } Q) E { s with heap := h, toks := tk })
    (done : ∀ (c : σ) (u : Str → Option Value) h tk, P vs.length c → Fr h₀ env.locals h (fun y => if y = x then u y else kstB (fun z => if stored.contains z then u z else m₀ z) (ps c) y) → News h₀ env.locals h (Led c) → Q .next { s with heap := h, toks := tk }) :
    wpAny (model prog w) A (pyIter (.ref l)) (fun it s₂ => LoopAtV prog w A h₀ env x body Q E it s₂) E s := by
  obtain ⟨ol, hol, hcl⟩ := id hl
  have hls : s.heap.IsTuple l vs.toArray := ⟨ol, F.keep l ol hol, hcl⟩
  have hlt : l < h₀.objs.size := Heap.lt_size hol
  have hne : l ≠ s.heap.objs.size := Nat.ne_of_lt (Nat.lt_trans (Nat.lt_of_lt_of_le hlt F.above) F.ns.lt)
  refine wpAny_pyIter_tuple hls ?_
  have W := Walks.tuple (prog := prog) (w := w) hh s.heap.objs.size l hne vs.toArray
  have hlen : vs.toArray.size = vs.length := by simp
  rw [hlen] at W
  refine ⟨_, _, _, vs.length, _, _, m₀, Led c₀, (fun i m nx => LpS Led ps x stored m₀ P i m nx), rfl, W, ?_, ?_, ?_, ⟨⟨_, Heap.get?_push_size _ rfl, rfl, rfl⟩, ⟨ol, Heap.get?_push_of_some _ (F.keep l ol hol), hcl⟩⟩, F.push _, (fun p hp => ⟨Heap.get?_push_of_some _ (N p (hled p hp)).1, (N p (hled p hp)).2⟩), ⟨c₀, rfl, hk, fun _ _ _ _ => rfl, hp⟩, ?_, ?_⟩
  · intro hm
    rcases List.mem_cons.mp hm with e | hm
    · exact absurd F.ns.lt (e ▸ Nat.lt_irrefl _)
    · exact absurd (Nat.lt_of_lt_of_le hlt F.above) ((List.mem_singleton.mp hm) ▸ Nat.lt_irrefl _)
  · intro b hb
    rw [List.mem_singleton.mp hb]
    exact next_is_new F
  · intro p hp hI
    exact absurd (Heap.lt_size (N p (hled p hp)).1) ((List.mem_singleton.mp hI) ▸ Nat.lt_irrefl _)
  · rintro i v m₁ news₁ s₁ own ⟨hh', tk', rfl⟩ hin hP hJ hoff hown _ hfp hst F₁ N₁
    have hI0 : h₀.get? s.heap.objs.size = none := next_is_new F
    obtain ⟨⟨oI, hoI, _⟩, _⟩ := id hst
    have hIown : (s.heap.objs.size, oI) ∈ own := hfp _ (List.mem_cons.mpr (.inl rfl)) hI0 _ hoI
    have hsep : OwnOff own (news₁.map (·.1)) := by
      intro p hp b hb e
      obtain ⟨q, hq, rfl⟩ := List.mem_map.mp hb
      rcases List.mem_cons.mp (hown p hp) with h1 | h1
      · exact hoff q hq (List.mem_singleton.mpr (e ▸ h1))
      · have h2 := List.mem_singleton.mp h1
        have h3 := (N₁ q (List.mem_append.mpr (.inr hq))).2.2
        rw [← e, h2, hol] at h3
        cases h3
    have hP' : vs[i]? = some v := by simpa using hP
    have N₂ : News h₀ env.locals hh' (news₁ ++ own) := fun p hp => N₁ p ((List.mem_append.mp hp).elim (fun h => List.mem_append.mpr (.inr h)) fun h => List.mem_append.mpr (.inl h))
    obtain ⟨c, rfl, h1, h2, hp'⟩ := hJ
    refine wpAny_mono (turn c i v m₁ hh' tk' own hP' hsep hp' (kst_fr h1 h2 F₁) N₂) (fun f s₂ p => ?_) fun _ _ e => e
    have fin : InvEndG h₀ env.locals (LpS Led ps x stored m₀ P (i + 1)) own { s with heap := hh', toks := tk' } s₂ → LoopStepU h₀ env.locals [s.heap.objs.size] own (LpS Led ps x stored m₀ P (i + 1)) { s with heap := hh', toks := tk' } .next s₂ := by
      rintro ⟨h', tk, m', news', nx, e, F', N', hn, ho, ha, hm⟩
      refine ⟨rfl, h', tk, m', nx, e, F', fun p hp => N' p ((List.mem_append.mp hp).elim (ho p) (hn p)), fun p hp hq => ?_, hm⟩
      exact ha _ hIown p.1 (List.mem_map.mpr ⟨p, hp, rfl⟩) (List.mem_singleton.mp hq).symm
    cases f with
    | ret v => exact .ret p
    | brk => exact .brk p
    | next => exact .next (fin p)
    | cont => exact .cont (fin p)
  · rintro h' tk m' news' F' N' _ ⟨c, rfl, h1, h2, hp'⟩
    exact done c m' h' tk hp' (kst_frOut h1 h2 F') N'

/-- over a list of the ledger -/
theorem lp_list {σ : Type} {l : Addr} {vs : List Value} {nn : Nat} {m₀ : Str → Option Value} {news : List (Addr × Obj)} (Led : σ → List (Addr × Obj)) (ps : σ → List (Str × Value)) (stored : List Str) (P : Nat → σ → Prop) (c₀ : σ)
    (hh : A.handled = none) (hl : ∀ c, (l, listOf vs.toArray nn) ∈ Led c) (F : Fr h₀ env.locals s.heap m₀) (N : News h₀ env.locals s.heap news) (hled : ∀ p ∈ Led c₀, p ∈ news) (hk : ∀ p ∈ ps c₀, m₀ p.1 = some p.2) (hp : P 0 c₀)
    (turn : ∀ (c : σ) (i : Nat) v (u : Str → Option Value) h tk own, vs[i]? = some v → OwnOff own ((Led c).map (·.1)) → P i c →
      Fr h₀ env.locals h (fun y => if y = x then some v else kstB (fun z => if stored.contains z then u z else m₀ z) (ps c) y) → News h₀ env.locals h (Led c ++ own) →
      wpAny (model prog w) A (execs body env) (InvPostG h₀ env.locals (LpS Led ps x stored m₀ P (i + 1)) own { s with heap := h, toks := tk } Q) E { s with heap := h, toks := tk })
    (done : ∀ (c : σ) (u : Str → Option Value) h tk, P vs.length c → Fr h₀ env.locals h (fun y => if y = x then u y else kstB (fun z => if stored.contains z then u z else m₀ z) (ps c) y) → News h₀ env.locals h (Led c) → Q .next { s with heap := h, toks := tk }) :
    wpAny (model prog w) A (pyIter (.ref l)) (fun it s₂ => LoopAtV prog w A h₀ env x body Q E it s₂) E s := by
  refine kdl_iter (news := Led c₀) (nn := nn) (fun i m nx => LpS Led ps x stored m₀ P i m nx) hh (hl c₀) F (fun p hp => N p (hled p hp)) ⟨c₀, rfl, hk, fun _ _ _ _ => rfl, hp⟩ ?_ ?_
  · rintro i v m₁ nx h tk own hi hoff _ ⟨c, rfl, h1, h2, hp'⟩ F₁ N₁
    refine wpAny_mono (turn c i v m₁ h tk own hi hoff hp' (kst_fr h1 h2 F₁) N₁) (fun f s₂ p => ?_) fun _ _ e => e
    have fin : InvEndG h₀ env.locals (LpS Led ps x stored m₀ P (i + 1)) own { s with heap := h, toks := tk } s₂ → InvEndG h₀ env.locals (fun m' nx => (l, listOf vs.toArray nn) ∈ nx ∧ LpS Led ps x stored m₀ P (i + 1) m' nx) own { s with heap := h, toks := tk } s₂ := by
      rintro ⟨h', tk, m', news', nx, e, F', N', hn, ho, ha, hm⟩
      refine ⟨h', tk, m', news', nx, e, F', N', hn, ho, ha, ?_, hm⟩
      obtain ⟨c', rfl, _⟩ := hm
      exact hl c'
    cases f with
    | ret v => exact p
    | brk => exact p
    | next => exact fin p
    | cont => exact fin p
  · rintro m₁ nx h tk ⟨c, rfl, h1, h2, hp'⟩ F₁ N₁
    exact done c m₁ h tk hp' (kst_frOut h1 h2 F₁) N₁
theorem off_ne {own l : List (Addr × Obj)} {d : Addr} {o : Obj} (h : OwnOff own (l.map (·.1))) (hd : (d, o) ∈ l) : ∀ p ∈ own, p.1 ≠ d := fun p hp => h p hp d (List.mem_map.mpr ⟨_, hd, rfl⟩)
theorem all_app {a b : List (Addr × Obj)} {d : Addr} (h1 : ∀ p ∈ a, p.1 ≠ d) (h2 : ∀ p ∈ b, p.1 ≠ d) : ∀ p ∈ a ++ b, p.1 ≠ d := fun p hp => (List.mem_append.mp hp).elim (h1 p) (h2 p)
theorem lp_off {ps : List (Str × Value)} {stored : List Str} {x z : Str} {u m₀ : Str → Option Value} {v : Option Value} (h1 : z ≠ x) (h2 : ∀ p ∈ ps, z ≠ p.1) (h3 : stored.contains z = false) :
    (if z = x then v else kstB (fun z => if stored.contains z then u z else m₀ z) ps z) = m₀ z := by
  rw [if_neg h1]
  induction ps with
  | nil => show (if stored.contains z = true then u z else m₀ z) = m₀ z; rw [h3]; rfl
  | cons p r ih =>
    show (if z = p.1 then some p.2 else kstB _ r z) = m₀ z
    rw [if_neg (h2 p (.head _))]
    exact ih fun q hq => h2 q (.tail _ hq)
theorem lp_nope {stored : List Str} {z a : Str} (h3 : stored.contains z = false) (ha : stored.contains a = true) : z ≠ a := fun e => by rw [e, ha] at h3; cases h3
/-- a stop of the walk -/
noncomputable def Lock (P : Prop) : Prop := P
theorem For_lock {m : Str → Option Value} {px pos : Pos} {iter : Expr} (F : Fr h₀ env.locals s.heap m) (hx : env.kindOf x = some .local)
    (hp : (env.scope.kind == .class || (env.scope.kind == .module && env.locals != env.globals)) = false)
    (h : wpAny (model prog w) A (eval iter env) (fun xv s₁ => Lock (wpAny (model prog w) A (pyIter xv) (fun it s₂ => LoopAtV prog w A h₀ env x body Q E it s₂) E s₁)) E s)
    (hs : ∀ x, foldedSetIterable iter env x = pure x)
    (hE : PassesOwn (model prog w) A env E) :
    wpAny (model prog w) A (exec (.For (.Name x px) iter body [] pos) env) Q E s := For_invVF F hx hp h hs hE
end
end Mine

end
section
open PySem PySem.W PyProof.Rows PySem.Spec PySem.Calls
namespace Mine
section
variable {prog : Program} {w : World} {A₀ A : Around} {s : Shared} {base h₀ : Heap} {outer : List Env} {L : Addr} {m : Str → Option Value} {env : Env} {K : Frag} {p : Program} {loose : List Str} {mean : ExcName → Option Value} {mg mb : Str → Option Value}
  {R : Result → Shared → Prop} {name qual : Str} {params : Arguments} {body : List Stmt} {scope : Scope} {dV kV doc pm cdv ct oc : Value} {an od : Option Addr} {osl : Array (Option Value)} {f : Addr} {args : Args} {binds : List (Str × Value)}
/-- the same for a def with names that a comprehension closes over -/
theorem code_pureC (B : Below A₀ base outer h₀) (F : Fr h₀ L s.heap m) (X : K.In s.heap) (T : Top p loose mean mg mb s.heap) (hA : A.frames = some (env :: outer)) (hf : env.frame = some L) (hke : env.scope.kind = .function)
    (ho : K.lookup f = some ⟨oc, od, .func (fnOf name qual params body scope dV kV doc pm an cdv ct), osl⟩) (hcd : codeIn K cdv qual = true) (hroom : A.depth < recursionLimit)
    (hbind : BindsTo s (fnOf name qual params body scope dV kV doc pm an cdv ct) args binds) (hkind : (binds.all fun y => scope.names.lookup y.1 == some .local || scope.names.lookup y.1 == some .cell) = true)
    (hnd : ((cellsFrom 0 scope.names []).map (·.1)).Nodup)
    (h : ∀ L' h₁ tk cells, Fr s.heap L' h₁ (bindL (envOfC qual scope L' f cdv).kindOf binds fun _ => none) → News s.heap L' h₁ cells →
      CellsAre (bindC (envOfC qual scope L' f cdv).kindOf binds fun _ => none) (cellsFrom (L' + 1) scope.names []) cells → Below A base (env :: outer) s.heap → K.In s.heap → Top p loose mean mg mb s.heap →
      wpAny (model prog w) (A.deeper (envOfC qual scope L' f cdv)) (execs body (envOfC qual scope L' f cdv))
        (fun fl s' => R (.ok (.ret (match fl with | .ret v => v | _ => .none))) s')
        (fun e s' => wpAny (model prog w) (A.deeper (envOfC qual scope L' f cdv)) (leaving (envOfC qual scope L' f cdv) e) (fun _ s'' => R (.error e) s'') (fun e' s'' => R (.error e') s'') s')
        { s with heap := h₁, toks := tk })
    (hco : scope.isCoroutine = false) (hgen : scope.isGenerator = false) (hk : scope.kind = .function) : codeAny (model prog w) A (.call (.ref f) args) R s := by
  obtain ⟨_, BG, _, _⟩ := groundX (R := R) B F (News.nil) hA hf hke
  refine codeAny_call_function hroom (X _ _ ho) rfl hco hgen rfl (codeRec_of X hcd) (hbind _ _ _ _ ?_)
  refine wpAny_newFunctionEnv_cells hk (kindsX hkind _) fun env' he s' x => ?_
  subst he
  refine ⟨T.nolimit.keeps x.toInCall.keep, codeAny_func ?_⟩
  obtain ⟨h₁, tk, rfl, _⟩ := x.done
  obtain ⟨cells, NC, Y⟩ := Cl.news (h₀ := s.heap) (Nat.le_refl _) fun n c hm => ⟨x.cell n c (lookup_of_mem_nodup (cellsFrom_names scope.names 0 (s.heap.objs.size + 1) [] [] rfl ▸ hnd) hm), x.above n c hm⟩
  exact h _ h₁ tk cells ⟨x.toInCall.ns, x.toInCall.keep, Nat.le_refl _⟩ NC Y BG X T
end
end Mine
namespace Mine
section
variable {prog : Program} {w : World} {A : Around} {E : Value → Shared → Prop} {s : Shared} {h₀ : Heap} {L : Addr} {m : Str → Option Value} {news : List (Addr × Obj)}
theorem tuple_rangeK {Q : Value → Shared → Prop} {r : Addr} {a b : Int} {t u v : Tok} {n : Nat} (hh : A.handled = none) (F : Fr h₀ L s.heap m) (N : News h₀ L s.heap news) (hr : IsRange s.heap r a b 1 t u v) (hsmall : Builtin.Range.small a b 1 = true)
    (hn : Builtin.Range.rangeSize a b 1 = n) (hlen : n ≤ 2 ^ 24)
    (h : ∀ D vs h' tk, Fr h₀ L h' m → News h₀ L h' ((D, ({ cls := .type "tuple", data := .seq (List.toArray vs) } : Obj)) :: news) → (∀ p ∈ news, p.1 < D) → IntsAre vs (rangeKs a n) → Q (.ref D) { s with heap := h', toks := tk }) :
    wpAny (model prog w) A (call (.type "tuple") [.ref r]) Q E s := by
  refine call_tuple_range hh hr hsmall hn hlen fun h' tk acc hk hacc => ?_
  have F' : Fr h₀ L h' m := F.keeps hk
  have N' : News h₀ L h' news := N.grown hk
  have e : acc = acc.toList.toArray := by simp
  have N2 := N'.push F' ({ cls := .type "tuple", data := .seq acc } : Obj)
  rw [e] at N2 ⊢
  refine h _ acc.toList _ tk (F'.push _) N2 (fun p hp => Heap.lt_size (N' p hp).1) (ints_of (by rw [rangeKs_length, Array.length_toList]; exact hacc.1) fun i x hx => ?_)
  have hx' : acc[i]? = some x := by simpa using hx
  obtain ⟨t', ht⟩ := hacc.2 i x hx'
  have hi : i < n := by rw [← hacc.1]; exact (Array.getElem?_eq_some_iff.mp hx').1
  exact ⟨a + (i : Int), t', by simp [rangeKs, hi], by rw [ht, Int.mul_one]⟩
end
end Mine

end
section
open PySem PySem.W PyProof.Rows PySem.Spec PySem.Calls
namespace Mine
section
variable {prog : Program} {w : World} {A : Around} {E : Value → Shared → Prop} {s : Shared} {h₀ : Heap} {L t : Addr} {m : Str → Option Value} {news : List (Addr × Obj)} {vs : List Value} {ns : List Int}
theorem len_tupK {Q : Value → Shared → Prop} (ht : IsTup s.heap t vs.toArray) (hi : IntsAre vs ns) (hz : ns.length ≤ 1000000) (h : Q (.int (ns.length : Nat) (s.toks + 1)) { s with toks := s.toks + 1 + 1 }) : wpAny (model prog w) A (call (.builtin "len") [.ref t]) Q E s := by
  have hl := hi.length
  refine len_tuple ht (by rw [List.size_toArray]; omega) ?_
  rw [List.size_toArray, hl]
  exact h
theorem sum_tupK {Q : Value → Shared → Prop} (hh : A.handled = none) (F : Fr h₀ L s.heap m) (N : News h₀ L s.heap news) (ht : IsTup s.heap t vs.toArray) (hi : IntsAre vs ns)
    (h : ∀ h' tk t', Fr h₀ L h' m → News h₀ L h' news → Q (.int ns.sum t') { s with heap := h', toks := tk }) :
    wpAny (model prog w) A (call (.builtin "sum") [.ref t]) Q E s := by
  obtain ⟨xs, hx⟩ := hi.allInts.items
  have hl : s.heap.IsTuple t vs.toArray := ht
  have hn : numsOf vs.toArray.toList = ns := by rw [show vs.toArray.toList = vs from rfl, hi.numsOf]
  rw [hx] at hl hn
  rw [nums_intItems] at hn
  refine ktm_sumG hh hl fun h' tk t' hk => ?_
  have := h h' tk t' (F.keeps hk) (N.grown hk)
  rw [preSum_eq, List.take_of_length_le (by simp), hn]
  exact this
theorem min_tupK {Q : Value → Shared → Prop} (hh : A.handled = none) (F : Fr h₀ L s.heap m) (N : News h₀ L s.heap news) (ht : IsTup s.heap t vs.toArray) (hi : IntsAre vs ns) (hne : 0 < ns.length)
    (h : ∀ h' M (t : Tok) tk, Fr h₀ L h' m → News h₀ L h' news → M ∈ ns → (∀ a, a ∈ ns → M ≤ a) → Q (.int M t) { s with heap := h', toks := tk }) :
    wpAny (model prog w) A (call (.builtin "min") [.ref t]) Q E s := by
  obtain ⟨xs, e⟩ := hi.allInts.items
  have hns : ns = xs.toList.map (·.1) := by rw [← hi.numsOf, ← nums_intItems, ← e]
  have hsz : 0 < xs.size := by
    have h3 := hne; rw [hns, List.length_map, Array.length_toList] at h3; exact h3
  have hl : s.heap.IsTuple t (intItems xs) := by rw [← e]; exact ht
  obtain ⟨o, ho, hc⟩ := id hl
  have hne' : t ≠ s.heap.objs.size := Nat.ne_of_lt (Heap.lt_size ho)
  refine call_min_walk (wpAny_pyIter_tuple hl ⟨_, _, _, _, _, _, _, rfl, Walks.tuple (A := A.in1) hh s.heap.objs.size t hne' (intItems xs), ⟨⟨_, Heap.get?_push_size _ rfl, rfl, rfl⟩, ⟨o, Heap.get?_push_of_some _ ho, hc⟩⟩, fun b hb => ?_, by simpa [intItems] using hsz, CmpOf.ints_lt (numAt xs) (fun _ _ => intItems_at), fun v h' tk hP hk => ?_⟩)
  · rcases List.mem_cons.mp hb with rfl | hb
    · exact Heap.lt_size (Heap.get?_push_size _ rfl)
    · obtain rfl := List.mem_singleton.mp hb
      exact Heap.lt_size (Heap.get?_push_of_some _ ho)
  · have hk' : ∀ b o, s.heap.get? b = some o → h'.get? b = some o := fun b o e => hk b o (fun hb => absurd (Heap.lt_size e) ((List.mem_singleton.mp hb) ▸ Nat.lt_irrefl _)) (Heap.get?_push_of_some _ e)
    have hP' : (intItems xs)[argBest (fun i j => decide (numAt xs i < numAt xs j)) (xs.size - 1)]? = some v := by simpa [intItems] using hP
    obtain ⟨t', rfl⟩ := intItems_at hP'
    obtain ⟨h1, h2⟩ := argBest_lt (numAt xs) (xs.size - 1)
    refine h _ _ t' tk (F.grownK hk') (N.grown hk') ?_ fun a ha => ?_
    · rw [hns, numAt_eq]; exact getD_mem (by rw [List.length_map, Array.length_toList]; omega)
    · rw [hns] at ha
      obtain ⟨j, hj, rfl⟩ := mem_getD ha
      rw [List.length_map, Array.length_toList] at hj
      rw [← numAt_eq]; exact h2 j (by omega)
theorem seqIdx {k : Int} {n : Nat} (h0 : 0 ≤ k) (h1 : k < (n : Int)) : seqIndex? k n = some k.toNat := by
  have e : (if k < 0 then k + (n : Int) else k) = k := if_neg (by omega)
  unfold seqIndex?
  simp only [e]
  rw [if_pos (by simp only [Bool.and_eq_true, decide_eq_true_eq]; lia)]
theorem item_tupV {value slice : PySem.Expr} {k : Int} {u : Tok} {Q : Value → Shared → Prop} (ht : IsTup s.heap t vs.toArray) (h0 : 0 ≤ k) (h1 : k < (vs.length : Int)) (hz : vs.length ≤ 1000000) (h : ∀ v, vs[k.toNat]? = some v → Q v s)
    (hs : subscripted slice false (.ref t) (.int k u) = operate [.ref t, .int k u] (getItem (.ref t) (.int k u))) :
    wpAny (model prog w) A (subscriptTail value slice (.ref t) (.int k u)) Q E s := by
  have hk : k.toNat < vs.length := by omega
  exact item_tupleT ht (by lia) (by omega) (seqIdx h0 h1) (List.getElem?_eq_getElem hk) (h _ (List.getElem?_eq_getElem hk)) hs
theorem item_tupI {value slice : PySem.Expr} {k : Int} {u : Tok} {Q : Value → Shared → Prop} (ht : IsTup s.heap t vs.toArray) (hi : IntsAre vs ns) (h0 : 0 ≤ k) (h1 : k < (ns.length : Int)) (hz : ns.length ≤ 1000000) (h : ∀ t', Q (.int (ns.getD k.toNat 0) t') s)
    (hs : subscripted slice false (.ref t) (.int k u) = operate [.ref t, .int k u] (getItem (.ref t) (.int k u))) :
    wpAny (model prog w) A (subscriptTail value slice (.ref t) (.int k u)) Q E s := by
  have hl := hi.length
  refine item_tupV ht h0 (by omega) (by omega) (fun v hv => ?_) hs
  obtain ⟨t', rfl⟩ := IntsAre.int_at hi _ v hv
  exact h t'
theorem item_listV {value slice : PySem.Expr} {k : Int} {u : Tok} {Q : Value → Shared → Prop} (ht : s.heap.IsList t vs.toArray) (h0 : 0 ≤ k) (h1 : k < (vs.length : Int)) (hz : vs.length ≤ 1000000) (h : ∀ v, vs[k.toNat]? = some v → Q v s)
    (hs : subscripted slice false (.ref t) (.int k u) = operate [.ref t, .int k u] (getItem (.ref t) (.int k u))) :
    wpAny (model prog w) A (subscriptTail value slice (.ref t) (.int k u)) Q E s := by
  have hk : k.toNat < vs.length := by omega
  exact tail_any ht.typeIs slot_list_getitem.lookup (wpAny_getItem_list ht h0 (by omega) (by simpa using List.getElem?_eq_getElem hk) (h _ (List.getElem?_eq_getElem hk))) hs
theorem item_listI {value slice : PySem.Expr} {k : Int} {u : Tok} {Q : Value → Shared → Prop} (ht : s.heap.IsList t vs.toArray) (hi : IntsAre vs ns) (h0 : 0 ≤ k) (h1 : k < (ns.length : Int)) (hz : ns.length ≤ 1000000) (h : ∀ t', Q (.int (ns.getD k.toNat 0) t') s)
    (hs : subscripted slice false (.ref t) (.int k u) = operate [.ref t, .int k u] (getItem (.ref t) (.int k u))) :
    wpAny (model prog w) A (subscriptTail value slice (.ref t) (.int k u)) Q E s := by
  have hl := hi.length
  refine item_listV ht h0 (by omega) (by omega) (fun v hv => ?_) hs
  obtain ⟨t', rfl⟩ := IntsAre.int_at hi _ v hv
  exact h t'
theorem item_listS {value slice : PySem.Expr} {k : Int} {u : Tok} {xs : List Str} {Q : Value → Shared → Prop} (ht : s.heap.IsList t vs.toArray) (hi : StrsAre vs xs) (h0 : 0 ≤ k) (h1 : k < (xs.length : Int)) (hz : xs.length ≤ 1000000) (h : ∀ y t', xs[k.toNat]? = some y → Q (.str y t') s)
    (hs : subscripted slice false (.ref t) (.int k u) = operate [.ref t, .int k u] (getItem (.ref t) (.int k u))) :
    wpAny (model prog w) A (subscriptTail value slice (.ref t) (.int k u)) Q E s := by
  have hl := hi.length
  refine item_listV ht h0 (by omega) (by omega) (fun v hv => ?_) hs
  obtain ⟨y, t', rfl, hy⟩ := StrsAre.item hi _ v hv
  exact h y t' hy
end
end Mine

end
section
open PySem PySem.W PyProof.Rows PySem.Spec PySem.Calls
namespace Mine
section
variable {prog : Program} {w : World} {A₀ A : Around} {s : Shared} {s0 base h₀ : Heap} {outer : List Env} {L C : Addr} {m : Str → Option Value} {env : Env} {K : Frag} {p : Program} {loose : List Str} {mean : ExcName → Option Value} {mg mb : Str → Option Value}
  {R : Result → Shared → Prop} {name qual : Str} {params : Arguments} {body : List Stmt} {scope : Scope} {dV kV doc pm cdv ct oc : Value} {an od : Option Addr} {osl : Array (Option Value)} {f : Addr} {args : Args} {binds : List (Str × Value)} {own : List (Addr × Obj)}

/-- an own class is called: the object stands, and all that stood -/
theorem make_pure {rest : List Value} {kw : List (Str × Value)} {fI : Addr} (X : K.In s.heap) (hm : makesIn K C = true)
    (hi : findIn K (.ref C) "__init__" = some (some (.ref fI))) (hf : typeIn K (.ref fI) = some (.type "function"))
    (h : ∀ x dx h', s.heap.StaysIn h' → s.heap.get? x = none → s.heap.get? dx = none → h'.get? x = some (instObj C dx) → h'.get? dx = some (dictOf [] 0) → dx < x →
      codeAny (model prog w) (A.under (.builtin "type.__call__" ⟨.ref C :: rest, kw⟩)) (.call (.ref fI) ⟨.ref x :: rest, kw⟩) (InitBack x R) { s with heap := h' }) :
    codeAny (model prog w) A (.call (.ref C) ⟨rest, kw⟩) R s := by
  obtain ⟨hh, g, d, t, os⟩ := s
  have none_at : ∀ a, hh.objs.size ≤ a → hh.get? a = none := fun a ha => Heap.get?_none_of_le ha
  refine make_core (makes_of X hm) (looks_findIn X hi) (fun self => bind_fn X self hf) (.inl rfl) (h _ hh.objs.size _ (fun b o e => Heap.get?_push_of_some _ (Heap.get?_push_of_some _ e)) (none_at _ (Nat.le_succ _)) (none_at _ (Nat.le_refl _)) ?_ ?_ (Nat.lt_succ_self _))
  · have e : ((hh.push emptyDict).push (instObj C hh.objs.size)).get? (hh.push emptyDict).objs.size = some (instObj C hh.objs.size) := Heap.get?_push_size _ rfl
    rwa [Heap.size_push] at e
  · exact Heap.get?_push_of_some _ (Heap.get?_push_size _ rfl)

/-- a def is entered: what the heap s0 held stands, the objects of 'own' are at its hands -/
theorem code_own (B : Below A₀ base outer h₀) (F : Fr h₀ L s.heap m) (N : News h₀ L s.heap own) (hs0 : ∀ b o, s0.get? b = some o → s.heap.get? b = some o ∧ b ∉ own.map (·.1)) (X : K.In s0) (T : Top p loose mean mg mb s0)
    (hA : A.frames = some (env :: outer)) (hf : env.frame = some L) (hke : env.scope.kind = .function)
    (ho : K.lookup f = some ⟨oc, od, .func (fnOf name qual params body scope dV kV doc pm an cdv ct), osl⟩) (hcd : codeIn K cdv qual = true) (hroom : A.depth < recursionLimit)
    (hbind : BindsTo s (fnOf name qual params body scope dV kV doc pm an cdv ct) args binds) (hloc : ∀ y ∈ binds, scope.names.lookup y.1 = some .local)
    (h : ∀ g L' h₁, s0.StaysIn g → Fr g L' h₁ (fun y => binds.reverse.lookup y) → News g L' h₁ own → Below A base (env :: outer) g → K.In g → Top p loose mean mg mb g →
      wpAny (model prog w) (A.deeper (envOf qual scope L' f cdv)) (execs body (envOf qual scope L' f cdv))
        (fun fl s' => R (.ok (.ret (match fl with | .ret v => v | _ => .none))) s')
        (fun e s' => wpAny (model prog w) (A.deeper (envOf qual scope L' f cdv)) (leaving (envOf qual scope L' f cdv) e) (fun _ s'' => R (.error e) s'') (fun e' s'' => R (.error e') s'') s')
        { s with heap := h₁, toks := s.toks + binds.length })
    (hco : scope.isCoroutine = false) (hgen : scope.isGenerator = false) (hk : scope.kind = .function)
    (hcell : ∀ x ∈ scope.names, x.2 ≠ .cell) : codeAny (model prog w) A (.call (.ref f) args) R s := by
  obtain ⟨_, BG, _, _⟩ := groundX (R := R) B F N hA hf hke
  have st : s0.StaysIn s.heap := fun b o e => (hs0 b o e).1
  have sg : s0.StaysIn (hideAll s.heap (own.map (·.1))) := fun b o e => hideAll_get _ (hs0 b o e).1 (hs0 b o e).2
  refine codeAny_call_def (fd := fnOf name qual params body scope dV kV doc pm an cdv ct) (body := body) (binds := binds) hroom ((X.keeps st) _ _ ho) rfl (T.keeps st).nolimit (codeRec_of (X.keeps st) hcd) rfl hbind hcell hloc (fun h₁ hns hk₁ => ?_) hco hgen hk
  exact h _ _ h₁ sg ⟨hns, fun b o e => hk₁ b o (of_hideAll _ e), Nat.le_of_eq (hideAll_size _ _)⟩ (fun p hp => ⟨hk₁ _ _ (N p hp).1, Nat.ne_of_lt (Heap.lt_size (N p hp).1), hideAll_none _ (List.mem_map_of_mem hp)⟩) BG (X.keeps sg) (T.keeps sg)
end
theorem own_off {s0 h : Heap} {x dx : Addr} {ox od : Obj} (hs : s0.StaysIn h) (hx : s0.get? x = none) (hd : s0.get? dx = none) : ∀ b o, s0.get? b = some o → h.get? b = some o ∧ b ∉ ([(x, ox), (dx, od)] : List (Addr × Obj)).map (·.1) := by
  intro b o e
  refine ⟨hs _ _ e, fun hb => ?_⟩
  rcases List.mem_cons.mp hb with h | h
  · have h' : b = x := h
    rw [h', hx] at e; cases e
  · have h' : b = dx := List.mem_singleton.mp h
    rw [h', hd] at e; cases e
theorem news_two {h₀ s0 h : Heap} {L x dx : Addr} {m : Str → Option Value} {ox od : Obj} (F : Fr h₀ L s0 m) (hx : s0.get? x = none) (hd : s0.get? dx = none) (h1 : h.get? x = some ox) (h2 : h.get? dx = some od) : News h₀ L h [(x, ox), (dx, od)] := by
  have hL : ∃ o, s0.get? L = some o := by obtain ⟨oL, es, ep, hL, _⟩ := F.ns; exact ⟨oL, hL⟩
  obtain ⟨oL, hL⟩ := hL
  intro p hp
  rcases List.mem_cons.mp hp with rfl | hp
  · exact ⟨h1, (fun e => by have e' : x = L := e; rw [e', hL] at hx; cases hx), F.noneBack hx⟩
  · obtain rfl := List.mem_singleton.mp hp
    exact ⟨h2, (fun e => by have e' : dx = L := e; rw [e', hL] at hd; cases hd), F.noneBack hd⟩
end Mine

end
section
open PySem PySem.W PyProof.Rows PySem.Spec PySem.Calls PyProof.V PySem.SeqAt
namespace Mine
theorem reads_ints {h : Heap} : ∀ {vs : List Value} {ns : List Int}, IntsAre vs ns → ReadsAll h vs (ns.map PyData.int) []
  | _, _, .nil => .nil
  | _, _, .cons n t r => ReadsAll.cons (as := []) (bs := []) (.int n t) (reads_ints r)
theorem reads_tup {h : Heap} {a : Addr} {vs : List Value} {ns : List Int} (ht : IsTup h a vs.toArray) (hi : IntsAre vs ns) : Reads h (.ref a) (.tuple (ns.map PyData.int)) [] := by
  obtain ⟨o, ho, hc, n, hd⟩ := ht
  exact .tuple ho hc hd (reads_ints hi)
theorem reads_two {h : Heap} {a b c : Addr} {xs ys : List Value} {ns ms : List Int} (ht : IsTup h a [Value.ref b, .ref c].toArray) (hb : IsTup h b xs.toArray) (hc : IsTup h c ys.toArray) (hi : IntsAre xs ns) (hj : IntsAre ys ms) :
    Reads h (.ref a) (.tuple [.tuple (ns.map PyData.int), .tuple (ms.map PyData.int)]) [] := by
  obtain ⟨o, ho, hcl, n, hd⟩ := ht
  exact .tuple ho hcl hd (ReadsAll.cons (as := []) (bs := []) (reads_tup hb hi) (ReadsAll.cons (as := []) (bs := []) (reads_tup hc hj) .nil))
section
variable {prog : Program} {w : World} {A : Around} {E : Value → Shared → Prop} {s : Shared} {a b c : Addr}
theorem two_shaped (ns ms : List Int) : shaped (.tuple [.tuple (ns.map PyData.int), .tuple (ms.map PyData.int)]) = true := by
  simp [SeqAt.shaped, PyData.canLay0, PyData.canLayAll0, PyData.depth, PyData.depthAll, ke_canLayAll0, ke_depthAll]
/-- two tuples of int tuples that hold the same numbers -/
theorem ne_told {a a' b b' c c' : Addr} {xs xs' ys ys' : List Value} {ns ms : List Int} {Q : Value → Shared → Prop} (ht : IsTup s.heap a [Value.ref b, .ref c].toArray) (hb : IsTup s.heap b xs.toArray) (hc : IsTup s.heap c ys.toArray) (hi : IntsAre xs ns) (hj : IntsAre ys ms)
    (ht' : IsTup s.heap a' [Value.ref b', .ref c'].toArray) (hb' : IsTup s.heap b' xs'.toArray) (hc' : IsTup s.heap c' ys'.toArray) (hi' : IntsAre xs' ns) (hj' : IntsAre ys' ms) (hu : A.units + 64 < cLine)
    (h : Q (.bool false) s) : wpAny (model prog w) A (compareOp .NotEq (.ref a) (.ref a')) Q E s := by
  refine ne_dataH (reads_two ht hb hc hi hj) (reads_two ht' hb' hc' hi' hj') (two_shaped _ _) (two_shaped _ _) hu ?_
  have e : PyData.eqv (.tuple [.tuple (ns.map PyData.int), .tuple (ms.map PyData.int)]) (.tuple [.tuple (ns.map PyData.int), .tuple (ms.map PyData.int)]) = true := by
    simp [PyData.eqv, PyData.eqvAll, ked_eqvAll]
  rw [e]
  exact h
end
end Mine

end
section
open PySem PySem.W PyProof.Rows PySem.Spec PySem.Calls PyProof.V PySem.SeqAt
namespace Mine
theorem rdB_len {b : Nat} {x : Str} {n : Int} (h : rdB b x = some n) : x.length ≤ 640 := by
  unfold rdB at h
  split at h
  · rename_i hc
    exact hc.2
  · cases h
theorem get_of {xs : List Int} {i : Nat} (h : i < xs.length) : xs[i]? = some (xs.getD i 0) := by
  rw [List.getD_eq_getElem?_getD, List.getElem?_eq_getElem h]
  rfl
section
variable {prog : Program} {w : World} {A : Around} {E : Value → Shared → Prop} {s : Shared} {t : Addr} {vs : List Value} {ns : List Int}
theorem item_strAt {value slice : PySem.Expr} {k : Int} {u : Tok} {xs : List Str} {y : Str} {Q : Value → Shared → Prop} (ht : s.heap.IsList t vs.toArray) (hi : StrsAre vs xs) (h0 : 0 ≤ k) (h1 : k < (xs.length : Int)) (hz : xs.length ≤ 1000000) (hy : xs[k.toNat]? = some y) (h : ∀ t', Q (.str y t') s)
    (hs : subscripted slice false (.ref t) (.int k u) = operate [.ref t, .int k u] (getItem (.ref t) (.int k u))) :
    wpAny (model prog w) A (subscriptTail value slice (.ref t) (.int k u)) Q E s :=
  item_listS ht hi h0 h1 hz (fun y' t' hy' => by rw [hy] at hy'; cases hy'; exact h t') hs
theorem item_intAt {value slice : PySem.Expr} {k v : Int} {u : Tok} {Q : Value → Shared → Prop} (ht : s.heap.IsList t vs.toArray) (hi : IntsAre vs ns) (h0 : 0 ≤ k) (hz : ns.length ≤ 1000000) (hy : ns[k.toNat]? = some v) (h : ∀ t', Q (.int v t') s)
    (hs : subscripted slice false (.ref t) (.int k u) = operate [.ref t, .int k u] (getItem (.ref t) (.int k u))) :
    wpAny (model prog w) A (subscriptTail value slice (.ref t) (.int k u)) Q E s := by
  have hk := (List.getElem?_eq_some_iff.mp hy).1
  refine item_listI ht hi h0 (by lia) hz (fun t' => ?_) hs
  rw [List.getD_eq_getElem?_getD, hy]
  exact h t'
theorem len_listI {Q : Value → Shared → Prop} (hl : s.heap.IsList t vs.toArray) (hi : IntsAre vs ns) (hz : ns.length ≤ 1000000) (h : Q (.int ns.length (s.toks + 1)) { s with toks := s.toks + 1 + 1 }) : wpAny (model prog w) A (call (.builtin "len") [.ref t]) Q E s := by
  have e : vs.toArray.size = ns.length := by rw [List.size_toArray]; exact hi.length
  refine len_list hl (by rw [e]; lia) ?_
  rw [e]
  exact h
theorem ints_shaped (ns : List Int) : shaped (.tuple (ns.map PyData.int)) = true := by
  simp [SeqAt.shaped, PyData.canLay0, PyData.canLayAll0, PyData.depth, PyData.depthAll, ke_canLayAll0, ke_depthAll]
/-- two tuples of the same ints -/
theorem ne_ints {a a' : Addr} {xs xs' : List Value} {Q : Value → Shared → Prop} (ht : IsTup s.heap a xs.toArray) (ht' : IsTup s.heap a' xs'.toArray) (hi : IntsAre xs ns) (hi' : IntsAre xs' ns) (hu : A.units + 64 < cLine)
    (h : Q (.bool false) s) : wpAny (model prog w) A (compareOp .NotEq (.ref a) (.ref a')) Q E s := by
  refine ne_dataH (reads_tup ht hi) (reads_tup ht' hi') (ints_shaped _) (ints_shaped _) hu ?_
  have e : PyData.eqv (.tuple (ns.map PyData.int)) (.tuple (ns.map PyData.int)) = true := by
    simp [PyData.eqv, PyData.eqvAll, ked_eqvAll]
  rw [e]
  exact h
end
end Mine

end
section
open PySem PySem.W PyProof.Rows PySem.Spec PySem.Calls
namespace Mine
section
variable {prog : Program} {w : World} {A : Around} {E : Value → Shared → Prop} {s : Shared} {env : Env} {h₀ : Heap} {x : Str} {body : List Stmt} {Q : Flow → Shared → Prop}
/-- a loop over a range whose name is a cell -/
theorem lp_rangeT {σ : Type} {px : Pos} {r : Addr} {a₀ b₀ c₁ : Int} {t₀ u₀ v₀ : Tok} {n : Nat} {m₀ : Str → Option Value} {news : List (Addr × Obj)} (Led : σ → List (Addr × Obj)) (ps : σ → List (Str × Value)) (stored : List Str) (P : Nat → σ → Prop) (c₀ : σ)
    (hh : A.handled = none) (hr : IsRange s.heap r a₀ b₀ c₁ t₀ u₀ v₀) (hsmall : Builtin.Range.small a₀ b₀ c₁ = true) (hn : Builtin.Range.rangeSize a₀ b₀ c₁ = (n : Int)) (F : Fr h₀ env.locals s.heap m₀) (N : News h₀ env.locals s.heap news) (hled : ∀ p ∈ Led c₀, p ∈ news) (hk : ∀ p ∈ ps c₀, m₀ p.1 = some p.2) (hp : P 0 c₀)
    (turn : ∀ (c : σ) (i : Nat) t (u : Str → Option Value) h tk own, i < n → OwnOff own ((Led c).map (·.1)) → P i c →
      Fr h₀ env.locals h (fun y => if y = x then u y else kstB (fun z => if stored.contains z then u z else m₀ z) (ps c) y) → News h₀ env.locals h (Led c ++ own) →
      wpAny (model prog w) A (assign (.Name x px) env (.int (a₀ + (i : Int) * c₁) t)) (fun _ s₃ => wpAny (model prog w) A (execs body env) (InvPostG h₀ env.locals (LpS Led ps x stored m₀ P (i + 1)) own { s with heap := h, toks := tk } Q) E s₃) E { s with heap := h, toks := tk })
    (done : ∀ (c : σ) (u : Str → Option Value) h tk, P n c → Fr h₀ env.locals h (fun y => if y = x then u y else kstB (fun z => if stored.contains z then u z else m₀ z) (ps c) y) → News h₀ env.locals h (Led c) → Q .next { s with heap := h, toks := tk }) :
    wpAny (model prog w) A (pyIter (.ref r)) (fun it s₂ => TurnsAt prog w A h₀ env (.Name x px) body Q E it s₂) E s := by
  refine wpAny_pyIter_range hr hsmall ?_
  have W : Walks prog w A s.heap.objs.size [s.heap.objs.size] [s.heap.objs.size] n (fun i v => ∃ t, v = .int (a₀ + i * c₁) t)
      (fun i h => IsRangeIter h s.heap.objs.size (a₀ + (i : Nat) * c₁) ((n : Int) - (i : Nat)) c₁) := (Walks.range hh _ a₀ c₁ n)
  refine ⟨_, _, _, n, _, _, _, m₀, Led c₀, (fun i m nx => LpS Led ps x stored m₀ P i m nx), rfl, KTurns.ofWalks W (fun i v s Q E _ h => wpAny_pure h), ?_, ?_, ?_, (by show IsRangeIter _ _ _ _ _; rw [hn]; simpa using Heap.get?_push_size _ rfl), F.push _, (fun p hp => ⟨Heap.get?_push_of_some _ (N p (hled p hp)).1, (N p (hled p hp)).2⟩), ⟨c₀, rfl, hk, fun _ _ _ _ => rfl, hp⟩, ?_, ?_⟩
  · intro hm
    exact absurd F.ns.lt ((List.mem_singleton.mp hm) ▸ Nat.lt_irrefl _)
  · intro b hb
    rw [List.mem_singleton.mp hb]
    exact next_is_new F
  · intro p hp hI
    exact absurd (Heap.lt_size (N p (hled p hp)).1) ((List.mem_singleton.mp hI) ▸ Nat.lt_irrefl _)
  · rintro i v m₁ news₁ h₁ tk₁ own hin ⟨t, rfl⟩ ⟨c, rfl, h1, h2, hp'⟩ hoff hown _ hmem hst F₁ N₁
    have hI0 : h₀.get? s.heap.objs.size = none := next_is_new F
    have hIown := hmem _ (List.mem_singleton.mpr rfl) hI0 _ hst
    have hsep : OwnOff own ((Led c).map (·.1)) := by
      intro p hp b hb e
      obtain ⟨q, hq, rfl⟩ := List.mem_map.mp hb
      exact hoff q hq (e ▸ hown p hp)
    have N₂ : News h₀ env.locals h₁ (Led c ++ own) := fun p hp => N₁ p ((List.mem_append.mp hp).elim (fun h => List.mem_append.mpr (.inr h)) fun h => List.mem_append.mpr (.inl h))
    refine wpAny_mono (turn c i t m₁ h₁ tk₁ own hin hsep hp' (kst_frOut h1 h2 F₁) N₂) (fun _ s₃ hq => wpAny_mono hq (fun f s₂ p => ?_) fun _ _ e => e) fun _ _ e => e
    have fin : InvEndG h₀ env.locals (LpS Led ps x stored m₀ P (i + 1)) own { s with heap := h₁, toks := tk₁ } s₂ → LoopStepU h₀ env.locals [s.heap.objs.size] own (LpS Led ps x stored m₀ P (i + 1)) { s with heap := h₁, toks := tk₁ } .next s₂ := by
      rintro ⟨h', tk, m', news', nx, e, F', N', hn, ho, ha, hm⟩
      refine ⟨rfl, h', tk, m', nx, e, F', fun p hp => N' p ((List.mem_append.mp hp).elim (ho p) (hn p)), fun p hp hq => ?_, hm⟩
      exact ha _ hIown p.1 (List.mem_map.mpr ⟨p, hp, rfl⟩) (List.mem_singleton.mp hq).symm
    cases f with
    | ret v => exact .ret p
    | brk => exact .brk p
    | next => exact .next (fin p)
    | cont => exact .cont (fin p)
  · rintro h' tk m' news' F' N' _ ⟨c, rfl, h1, h2, hp'⟩
    exact done c m' h' tk hp' (kst_frOut h1 h2 F') N'
theorem For_lockT {m : Str → Option Value} {px pos : Pos} {iter : Expr} (F : Fr h₀ env.locals s.heap m)
    (h : wpAny (model prog w) A (eval iter env) (fun xv s₁ => Lock (wpAny (model prog w) A (pyIter xv) (fun it s₂ => TurnsAt prog w A h₀ env (.Name x px) body Q E it s₂) E s₁)) E s)
    (hs : ∀ x, foldedSetIterable iter env x = pure x)
    (hE : PassesOwn (model prog w) A env E) :
    wpAny (model prog w) A (exec (.For (.Name x px) iter body [] pos) env) Q E s := For_turns F h hs hE
end
end Mine

end
section
open PySem PySem.W PyProof.Rows PySem.Spec PySem.Calls
namespace Mine
noncomputable def Flag : Prop := True
theorem lock_in {P : Prop} (h : Mine.Lock P) : P := h
section
variable {prog : Program} {w : World} {A : Around} {E : Value → Shared → Prop} {s : Shared} {h₀ : Heap} {L : Addr} {m : Str → Option Value} {news : List (Addr × Obj)} {env : Env} {st : Stmt} {Q : Flow → Shared → Prop}
noncomputable def QuietPost (h₀ : Heap) (L : Addr) (m : Str → Option Value) (news : List (Addr × Obj)) (s : Shared) (fl : Flow) (s' : Shared) : Prop :=
  fl = .next ∧ ∃ (h' : Heap) (tk' : Nat), s' = { s with heap := h', toks := tk' } ∧ Fr h₀ L h' m ∧ News h₀ L h' news
theorem if_quiet (F : Fr h₀ L s.heap m) (N : News h₀ L s.heap news)
    (h1 : wpAny (model prog w) A (exec st env) (QuietPost h₀ L m news s) E s)
    (h2 : ∀ (h' : Heap) (tk' : Nat), Fr h₀ L h' m → News h₀ L h' news → Q .next { s with heap := h', toks := tk' }) : wpAny (model prog w) A (exec st env) Q E s :=
  wpAny_mono h1 (by rintro _ _ ⟨rfl, h', tk', rfl, F', N'⟩; exact h2 h' tk' F' N') fun _ _ e => e
end
end Mine

end
open PySem.Spec PySem.Calls PyProof.Rows.LCg PyProof.Rows.LCt
local macro_rules | `(tactic| walk_at $s:str) => `(tactic| k_extra $s)
local macro_rules | `(tactic| k_all) => `(tactic| k_extra "all9")
local macro_rules | `(tactic| ktr_units) => `(tactic| k_extra "units9")
section
namespace Mine
theorem reads_len {b : Nat} {xs : List Str} {ns : List Int} (h : xs.map (rdB b) = ns.map some) : xs.length = ns.length := by simpa using congrArg List.length h
theorem reads_at {b : Nat} {xs : List Str} {ns : List Int} (h : xs.map (rdB b) = ns.map some) {i : Nat} {y : Str} (hy : xs[i]? = some y) : ∃ k, ns[i]? = some k ∧ rdB b y = some k := by
  have e := congrArg (fun l => l[i]?) h
  simp only [List.getElem?_map, hy, Option.map_some] at e
  cases hk : ns[i]? with
  | none => rw [hk] at e; cases e
  | some k => rw [hk] at e; exact ⟨k, rfl, Option.some.inj e⟩
set_option maxHeartbeats 8000000 in
theorem read_head_C (w : World) (mean : ExcName → Option Value) (mg mb : Str → Option Value) (x : Str) (t : Tok) (hs : List Int) (hx : x.length < 1000) (hlen : hs.length < 1000) (hr : (Txt.split x (Str.ofString " ")).map (rdB 16) = hs.map some) :
    Pur w mean mg mb 25 [.str x t] 2 (fun _ => True) (fun r tl => ∃ a vs n, r = .ref a ∧ tl = [(a, listOf vs.toArray n)] ∧ IntsAre vs hs) := by
  k_with_none
  k_with "all9" => with_reducible assumption
  k_with "units9" => (have hcL9 := cLine_is; (simp only [units_under_make, units_in1, units_deeper]); (try dsimp only [ktrTop]); omega)
  k_with "pu_rest" => ((case kA => exact rfl); (case kF => exact rfl); (case kK => assumption); (case k1 => k_asm); (case k2 => k_asm); (case k3 => k_asm); (case k5 => k_asm); (case k6 => k_is); (case k7 => k_is); (case k8 => ktr_room); (case k9 => exact BindsTo.of_eq rfl); (case c5 => decide); (case kB => exact locs rfl); (case c2 => exact rfl); (case c3 => exact rfl); (case c4 => exact rfl); k_whole; intro L' h' F' N' B' X' T'; (try dsimp only); (try k_fold))
  k_with "eval ListComp" => (k_here; (with_reducible show wpAny _ _ (eval (Expr.ListComp _ [⟨Expr.Name _ _, _, [], _⟩] _ _) _) _ _ _); k_dflt (refine' Mine.comp_U ?k0 ?k1 ?k2 ?k3 ?k4 ?k5 ?_ (by intro _; rfl); (case k0 => k_asm); (case k1 => with_unfolding_all rfl); (case k2 => decide); (case k3 => rfl); (case k4 => decide); (case k5 => rfl)))
  k_with "eval ListComp" => (k_here; (with_reducible show wpAny _ _ (eval (Expr.ListComp _ [⟨Expr.Name _ _, _, [_], _⟩] _ _) _) _ _ _); k_dflt (refine' Mine.comp_T ?k0 ?k1 ?k2 ?k3 ?k4 ?k5 ?_ (by intro _; rfl); (case k0 => k_asm); (case k1 => with_unfolding_all rfl); (case k2 => decide); (case k3 => rfl); (case k4 => decide); (case k5 => rfl)))
  k_with "call builtin:str.split" => (k_here; (with_reducible show wpAny _ _ (call (Value.builtin "str.split") [Value.str _ _, Value.str _ _]) _ _ _); k_dflt (refine' KSpl.split1 ?k1 ?k2 ?k3 ?_ ?k4; (case k1 => k_asm); (case k2 => k_asm); (case k3 => decide); (case k4 => (rw [PySem.sizeLine_eq]; omega))); intro D' l' h' k' e' a' F' N' l1; (try k_lt l1))
  k_with "call type:int" => (k_here; (with_reducible show wpAny _ _ (call (Value.type "int") [Value.str _ _, Value.int _ _]) _ _ _); k_dflt (first | (refine' Mine.call_intB (b := 16) (.inr rfl) ?k1 ?_; (case k1 => assumption)) | (refine' Mine.call_intB (b := 2) (.inl rfl) ?k1 ?_; (case k1 => assumption))))
  k_with "exec For Name Call cons nil" => (k_here; (rename Fr _ _ _ _ => lF'); (with_unfolding_all refine' Mine.For_lock lF' ?k1 ?k2 ?_ (by intro _; rfl) (by passes_own); (case k1 => exact rfl); (case k2 => exact rfl); k_whole))
  k_with "exec For Name Name cons nil" => (k_here; (rename Fr _ _ _ _ => lF'); (with_unfolding_all refine' Mine.For_lock lF' ?k1 ?k2 ?_ (by intro _; rfl) (by passes_own); (case k1 => exact rfl); (case k2 => exact rfl); k_whole))
  k_with "pu_call" => ((case B9 => k_asm); (case F9 => k_asm); (case X9 => k_asm); (case N9 => k_asm); (case T9 => k_asm); (case k9 => first | exact rfl | assumption); (case d9 => ktr_room); (case u9 => ktr_units))
  k_with "call type:tuple" => (k_here; (with_reducible show wpAny _ _ (call (Value.type "tuple") [Value.ref _]) _ _ _); k_dflt (refine' Mine.tuple_rangeK ?k0 ?k1 ?k2 ?k3 ?k4 ?k5 ?k6 ?_; (case k0 => rfl); (case k1 => k_asm); (case k2 => k_asm); (case k3 => assumption); (case k4 => decide); (case k5 => rfl); (case k6 => decide)); intro D' vs' h' tk' F' N' l1 i9; (try k_lt l1); (try k_sweep))
  k_with "call builtin:len" => (k_here; (with_reducible show wpAny _ _ (call (Value.builtin "len") [Value.ref _]) _ _ _); k_dflt (refine' Mine.len_tupK ?k1 ?k2 ?k3 ?_; (case k1 => first | exact Fr.tup (by k_asm) (by assumption) | exact News.isTup (by k_asm) (by k_mem)); (case k2 => assumption); (case k3 => omega)))
  k_with "call builtin:sum" => (k_here; (with_reducible show wpAny _ _ (call (Value.builtin "sum") [Value.ref _]) _ _ _); k_dflt (refine' Mine.sum_tupK ?k0 ?k1 ?k2 ?k3 ?k4 ?_; (case k0 => rfl); (case k1 => k_asm); (case k2 => k_asm); (case k3 => first | exact Fr.tup (by k_asm) (by assumption) | exact News.isTup (by k_asm) (by k_mem)); (case k4 => assumption)); intro h' tk' t' F' N'; (try k_sweep))
  k_with "call builtin:min" => (k_here; (with_reducible show wpAny _ _ (call (Value.builtin "min") [Value.ref _]) _ _ _); k_dflt (refine' Mine.min_tupK ?k0 ?k1 ?k2 ?k3 ?k4 ?k5 ?_; (case k0 => rfl); (case k1 => k_asm); (case k2 => k_asm); (case k3 => first | exact Fr.tup (by k_asm) (by assumption) | exact News.isTup (by k_asm) (by k_mem)); (case k4 => assumption); (case k5 => omega)); intro h' M' t' tk' F' N' a' b'; (try k_sweep))
  k_with "subscriptTail" => (k_here; (with_reducible show wpAny _ _ (subscriptTail _ _ (Value.ref _) (Value.int _ _)) _ _ _); k_dflt (refine' Mine.item_tupI ?k1 ?k2 ?k3 ?k4 ?k5 ?_ (by with_unfolding_all rfl); (case k1 => first | exact Fr.tup (by k_asm) (by assumption) | exact News.isTup (by k_asm) (by k_mem)); (case k2 => assumption); (case k3 => omega); (case k4 => omega); (case k5 => omega)); intro t')
  k_with "subscriptTail" => (k_here; (with_reducible show wpAny _ _ (subscriptTail _ _ (Value.ref _) (Value.int _ _)) _ _ _); k_dflt (refine' Mine.item_listI ?k1 ?k2 ?k3 ?k4 ?k5 ?_ (by with_unfolding_all rfl); (case k1 => exact News.isList (by k_asm) (by k_mem)); (case k2 => assumption); (case k3 => omega); (case k4 => omega); (case k5 => omega)); intro t')
  k_with "subscriptTail" => (k_here; (with_reducible show wpAny _ _ (subscriptTail _ _ (Value.ref _) (Value.int _ _)) _ _ _); k_dflt (refine' Mine.item_listS ?k1 ?k2 ?k3 ?k4 ?k5 ?_ (by with_unfolding_all rfl); (case k1 => exact News.isList (by k_asm) (by k_mem)); (case k2 => assumption); (case k3 => omega); (case k4 => omega); (case k5 => omega)); intro y' t' hy')
  w_top off
  unfold Pur
  k_fill
  intro dp un gd cn cs a ccd cl outer A₀ base h₀ L m s Q E B F X T hk hdp hun hp hret
  refine wpAny_call ?_
  k_dflt (refine' Mine.code_pure (K := Mine.hd.heap_39 w.params) (binds := [(Str.ofString "text", .str x t)]) ?k1 ?k2 ?k3 ?k5 ?kA ?kF ?kK ?k6 ?k7 ?k8 ?k9 ?kB ?_ ?c2 ?c3 ?c4 ?c5)
  (case kA => exact rfl); (case kF => exact rfl); (case kK => assumption); (case k1 => k_asm); (case k2 => k_asm); (case k3 => k_asm); (case k5 => k_asm); (case k6 => k_is); (case k7 => k_is); (case k8 => ktr_room); (case k9 => exact BindsTo.of_eq rfl); (case c5 => decide); (case kB => exact locs rfl); (case c2 => exact rfl); (case c3 => exact rfl); (case c4 => exact rfl); k_whole; intro L' h' F' N' B' X' T'; (try dsimp only); (try k_fold)
  clear B F X T
  k_steps
  have el := e'
  have al := a'
  have F1 := F'
  have N1 := N'
  clear e' a' F' N'
  rw [el] at al
  have hl1 := al.length
  have hl2 := reads_len hr
  refine at_list rfl F1 N1 (.inr ⟨_, List.mem_singleton.mpr rfl, rfl, _, rfl⟩) (by rw [List.size_toArray, PySem.sizeLine_eq]; omega) fun g => ?_
  refine rest_ints (ks := hs) (by rw [List.size_toArray]; omega) (fun i v I oI C oC D' m₂ ys h2 tk2 E2 hi hv hC hm F2 N2 off ne => ?_) fun ys hys => ?_
  · have hv' : (strValues l')[i]? = some v := by simpa using hv
    obtain ⟨y, ty, rfl, hy⟩ := StrsAre.item al i v hv'
    obtain ⟨kk, hk1, hk2⟩ := reads_at hr hy
    clear F1 N1
    k_steps
    exact CompEnd.intro (by assumption) (by assumption) _ (fun _ h => h) off (.inr ⟨_, List.mem_singleton.mpr rfl, rfl, _, rfl⟩) ⟨rfl, _, _, hk1, rfl⟩
  · intro D2 h3 tk3 F3 N3 o1
    clear F1 N1
    exact hret _ [(D2, lst ys)] _ _ F3.keep (fun p hp => ⟨(N3 p (by rw [List.mem_singleton.mp hp]; exact List.mem_cons_self)).1, (N3 p (by rw [List.mem_singleton.mp hp]; exact List.mem_cons_self)).2.2⟩) ⟨_, _, _, rfl, rfl, hys⟩
end Mine

end
section
namespace Mine
noncomputable def rowTo (r : Nat) : Nat → List Int
  | 0 => []
  | k + 1 => rowTo r k ++ [16 * (0 + (r : Int) * 1) + (1 + (k : Int) * 1)]
noncomputable def allTo : Nat → List Int
  | 0 => [0]
  | r + 1 => (allTo r ++ if 0 + (r : Int) * 1 = 15 then [240] else []) ++ rowTo r 10
theorem rowTo_len (r k : Nat) : (rowTo r k).length = k := by induction k with
  | zero => rfl
  | succ k ih => simp only [rowTo, List.length_append, ih, List.length_singleton]
theorem allTo_len (r : Nat) : (allTo r).length ≤ 1 + 11 * r := by induction r with
  | zero => decide
  | succ r ih =>
    simp only [allTo, List.length_append, rowTo_len]
    split <;> simp only [List.length_singleton, List.length_nil] <;> grind
set_option maxHeartbeats 8000000 in
theorem all_symbols_C (w : World) (mean : ExcName → Option Value) (mg mb : Str → Option Value) :
    Pur w mean mg mb 32 [] 2 (fun _ => True) (fun r tl => ∃ a vs n, r = .ref a ∧ tl = [(a, listOf vs.toArray n)] ∧ IntsAre vs (allTo 16)) := by
  k_with_none
  k_with "all9" => with_reducible assumption
  k_with "units9" => (have hcL9 := cLine_is; (simp only [units_under_make, units_in1, units_deeper]); (try dsimp only [ktrTop]); omega)
  k_with "pu_rest" => ((case kA => exact rfl); (case kF => exact rfl); (case kK => assumption); (case k1 => k_asm); (case k2 => k_asm); (case k3 => k_asm); (case k5 => k_asm); (case k6 => k_is); (case k7 => k_is); (case k8 => ktr_room); (case k9 => exact BindsTo.of_eq rfl); (case c5 => decide); (case kB => exact locs rfl); (case c2 => exact rfl); (case c3 => exact rfl); (case c4 => exact rfl); k_whole; intro L' h' F' N' B' X' T'; (try dsimp only); (try k_fold))
  k_with "eval ListComp" => (k_here; (with_reducible show wpAny _ _ (eval (Expr.ListComp _ [⟨Expr.Name _ _, _, [], _⟩] _ _) _) _ _ _); k_dflt (refine' Mine.comp_U ?k0 ?k1 ?k2 ?k3 ?k4 ?k5 ?_ (by intro _; rfl); (case k0 => k_asm); (case k1 => with_unfolding_all rfl); (case k2 => decide); (case k3 => rfl); (case k4 => decide); (case k5 => rfl)))
  k_with "eval ListComp" => (k_here; (with_reducible show wpAny _ _ (eval (Expr.ListComp _ [⟨Expr.Name _ _, _, [_], _⟩] _ _) _) _ _ _); k_dflt (refine' Mine.comp_T ?k0 ?k1 ?k2 ?k3 ?k4 ?k5 ?_ (by intro _; rfl); (case k0 => k_asm); (case k1 => with_unfolding_all rfl); (case k2 => decide); (case k3 => rfl); (case k4 => decide); (case k5 => rfl)))
  k_with "call builtin:str.split" => (k_here; (with_reducible show wpAny _ _ (call (Value.builtin "str.split") [Value.str _ _, Value.str _ _]) _ _ _); k_dflt (refine' KSpl.split1 ?k1 ?k2 ?k3 ?_ ?k4; (case k1 => k_asm); (case k2 => k_asm); (case k3 => decide); (case k4 => (rw [PySem.sizeLine_eq]; omega))); intro D' l' h' k' e' a' F' N' l1; (try k_lt l1))
  k_with "call type:int" => (k_here; (with_reducible show wpAny _ _ (call (Value.type "int") [Value.str _ _, Value.int _ _]) _ _ _); k_dflt (first | (refine' Mine.call_intB (b := 16) (.inr rfl) ?k1 ?_; (case k1 => assumption)) | (refine' Mine.call_intB (b := 2) (.inl rfl) ?k1 ?_; (case k1 => assumption))))
  k_with "exec For Name Call cons nil" => (k_here; (rename Fr _ _ _ _ => lF'); (with_unfolding_all refine' Mine.For_lock lF' ?k1 ?k2 ?_ (by intro _; rfl) (by passes_own); (case k1 => exact rfl); (case k2 => exact rfl); k_whole))
  k_with "exec For Name Name cons nil" => (k_here; (rename Fr _ _ _ _ => lF'); (with_unfolding_all refine' Mine.For_lock lF' ?k1 ?k2 ?_ (by intro _; rfl) (by passes_own); (case k1 => exact rfl); (case k2 => exact rfl); k_whole))
  k_with "pu_call" => ((case B9 => k_asm); (case F9 => k_asm); (case X9 => k_asm); (case N9 => k_asm); (case T9 => k_asm); (case k9 => first | exact rfl | assumption); (case d9 => ktr_room); (case u9 => ktr_units))
  k_with "call type:tuple" => (k_here; (with_reducible show wpAny _ _ (call (Value.type "tuple") [Value.ref _]) _ _ _); k_dflt (refine' Mine.tuple_rangeK ?k0 ?k1 ?k2 ?k3 ?k4 ?k5 ?k6 ?_; (case k0 => rfl); (case k1 => k_asm); (case k2 => k_asm); (case k3 => assumption); (case k4 => decide); (case k5 => rfl); (case k6 => decide)); intro D' vs' h' tk' F' N' l1 i9; (try k_lt l1); (try k_sweep))
  k_with "call builtin:len" => (k_here; (with_reducible show wpAny _ _ (call (Value.builtin "len") [Value.ref _]) _ _ _); k_dflt (refine' Mine.len_tupK ?k1 ?k2 ?k3 ?_; (case k1 => first | exact Fr.tup (by k_asm) (by assumption) | exact News.isTup (by k_asm) (by k_mem)); (case k2 => assumption); (case k3 => omega)))
  k_with "call builtin:sum" => (k_here; (with_reducible show wpAny _ _ (call (Value.builtin "sum") [Value.ref _]) _ _ _); k_dflt (refine' Mine.sum_tupK ?k0 ?k1 ?k2 ?k3 ?k4 ?_; (case k0 => rfl); (case k1 => k_asm); (case k2 => k_asm); (case k3 => first | exact Fr.tup (by k_asm) (by assumption) | exact News.isTup (by k_asm) (by k_mem)); (case k4 => assumption)); intro h' tk' t' F' N'; (try k_sweep))
  k_with "call builtin:min" => (k_here; (with_reducible show wpAny _ _ (call (Value.builtin "min") [Value.ref _]) _ _ _); k_dflt (refine' Mine.min_tupK ?k0 ?k1 ?k2 ?k3 ?k4 ?k5 ?_; (case k0 => rfl); (case k1 => k_asm); (case k2 => k_asm); (case k3 => first | exact Fr.tup (by k_asm) (by assumption) | exact News.isTup (by k_asm) (by k_mem)); (case k4 => assumption); (case k5 => omega)); intro h' M' t' tk' F' N' a' b'; (try k_sweep))
  k_with "subscriptTail" => (k_here; (with_reducible show wpAny _ _ (subscriptTail _ _ (Value.ref _) (Value.int _ _)) _ _ _); k_dflt (refine' Mine.item_tupI ?k1 ?k2 ?k3 ?k4 ?k5 ?_ (by with_unfolding_all rfl); (case k1 => first | exact Fr.tup (by k_asm) (by assumption) | exact News.isTup (by k_asm) (by k_mem)); (case k2 => assumption); (case k3 => omega); (case k4 => omega); (case k5 => omega)); intro t')
  k_with "subscriptTail" => (k_here; (with_reducible show wpAny _ _ (subscriptTail _ _ (Value.ref _) (Value.int _ _)) _ _ _); k_dflt (refine' Mine.item_listI ?k1 ?k2 ?k3 ?k4 ?k5 ?_ (by with_unfolding_all rfl); (case k1 => exact News.isList (by k_asm) (by k_mem)); (case k2 => assumption); (case k3 => omega); (case k4 => omega); (case k5 => omega)); intro t')
  k_with "subscriptTail" => (k_here; (with_reducible show wpAny _ _ (subscriptTail _ _ (Value.ref _) (Value.int _ _)) _ _ _); k_dflt (refine' Mine.item_listS ?k1 ?k2 ?k3 ?k4 ?k5 ?_ (by with_unfolding_all rfl); (case k1 => exact News.isList (by k_asm) (by k_mem)); (case k2 => assumption); (case k3 => omega); (case k4 => omega); (case k5 => omega)); intro y' t' hy')
  w_top off
  unfold Pur
  k_fill
  intro dp un gd cn cs a ccd cl outer A₀ base h₀ L m s Q E B F X T hk hdp hun hp hret
  refine wpAny_call ?_
  k_dflt (refine' Mine.code_pure (K := Mine.hd.heap_39 w.params) (binds := []) ?k1 ?k2 ?k3 ?k5 ?kA ?kF ?kK ?k6 ?k7 ?k8 ?k9 ?kB ?_ ?c2 ?c3 ?c4 ?c5)
  (case kA => exact rfl); (case kF => exact rfl); (case kK => assumption); (case k1 => k_asm); (case k2 => k_asm); (case k3 => k_asm); (case k5 => k_asm); (case k6 => k_is); (case k7 => k_is); (case k8 => ktr_room); (case k9 => exact BindsTo.of_eq rfl); (case c5 => decide); (case kB => exact locs rfl); (case c2 => exact rfl); (case c3 => exact rfl); (case c4 => exact rfl); k_whole; intro L' h' F' N' B' X' T'; (try dsimp only); (try k_fold)
  clear B F X T
  k_steps
  rename_i tk1 D _ _ h1 F1 N1 h2 tk3 t1 u1 v1 R2 F2 N2 hk2
  clear F1 N1
  unfold Lock
  refine lp_range (σ := List Value × Nat) (n := 16) (fun c => [(D, listOf c.1.toArray c.2)]) (fun _ => []) [Str.ofString "size"] (fun i c => IntsAre c.1 (allTo i)) ([.int 0 tk1], 0) rfl R2 (by decide) (by rfl) F2 N2 (fun _ h => h) (fun _ h => nomatch h) (.cons _ _ .nil) ?_ ?_
  · rintro ⟨vs, n⟩ i t u h4 tk4 own hi hoff hP F4 N4
    clear F2 N2
    have hlen := hP.length
    have hle := allTo_len i
    dsimp only at hlen hP hoff F4 N4
    k_steps
    · rename_i h15 _ _ F5 N5 h5 tk5 t5 u5 v5 R5 F6 N6 hk6
      clear F5 N5
      unfold Lock
      simp only [List.push_toArray] at N6
      refine lp_range (σ := List Value × Nat) (n := 10) (fun c => (D, listOf c.1.toArray c.2) :: own) (fun _ => []) [] (fun k c => IntsAre c.1 ((allTo i ++ [240]) ++ rowTo i k)) (vs ++ [.int 240 _], n + 1) rfl R5 (by decide) (by rfl) F6 N6 (fun _ h => h) (fun _ h => nomatch h) (by simpa [rowTo] using hP.append (.cons 240 _ .nil)) ?_ ?_
      · rintro ⟨ws, nw⟩ k t' u' h7 tk7 own' hk hoff' hP' F7 N7
        clear F6 N6
        have hlen' := hP'.length
        have hr := rowTo_len i k
        simp only [List.length_append, List.length_singleton, hr] at hlen'
        dsimp only at hlen' hP' hoff' F7 N7
        simp only [List.cons_append] at N7
        have hne := all_app (off_ne hoff (List.mem_singleton.mpr rfl)) (off_ne hoff' List.mem_cons_self)
        k_steps
        rename_i h8 F8 N8
        simp only [List.push_toArray] at N8
        refine lp_end (ws ++ [.int _ _], nw + 1) F8 N8 (by kcf_all) (by kcf_all) hoff' (fun _ h => nomatch h) (fun z h1 h2 h3 => lp_off h1 h2 h3) ?_
        show IntsAre _ (allTo i ++ [240] ++ (rowTo i k ++ [_]))
        rw [← List.append_assoc]
        exact hP'.append (.cons _ _ .nil)
      · rintro ⟨ws, nw⟩ u' h7 tk7 hP' F7 N7
        clear F6 N6
        dsimp only at hP' F7 N7
        k_steps
        refine lp_end (ws, nw) F7 N7 (by kcf_all) (by kcf_all) hoff (fun _ h => nomatch h) ?_ ?_
        · intro z h1 h2 h3
          exact (lp_off (ps := []) (fun e => by rw [e] at h3; exact absurd h3 (by decide)) (by intro _ h; cases h) rfl).trans (lp_off h1 h2 h3)
        · simp only [allTo, if_pos h15]
          exact hP'
    · rename ¬ (0 + (i : Int) * 1 = 15) => h15
      rename_i h5 tk5 t5 u5 v5 R5 F6 N6 hk6
      unfold Lock
      refine lp_range (σ := List Value × Nat) (n := 10) (fun c => (D, listOf c.1.toArray c.2) :: own) (fun _ => []) [] (fun k c => IntsAre c.1 (allTo i ++ rowTo i k)) (vs, n) rfl R5 (by decide) (by rfl) F6 N6 (fun _ h => h) (fun _ h => nomatch h) (by simpa [rowTo] using hP) ?_ ?_
      · rintro ⟨ws, nw⟩ k t' u' h7 tk7 own' hk hoff' hP' F7 N7
        clear F6 N6
        have hlen' := hP'.length
        have hr := rowTo_len i k
        simp only [List.length_append, hr] at hlen'
        dsimp only at hlen' hP' hoff' F7 N7
        simp only [List.cons_append] at N7
        have hne := all_app (off_ne hoff (List.mem_singleton.mpr rfl)) (off_ne hoff' List.mem_cons_self)
        k_steps
        rename_i h8 F8 N8
        simp only [List.push_toArray] at N8
        refine lp_end (ws ++ [.int _ _], nw + 1) F8 N8 (by kcf_all) (by kcf_all) hoff' (fun _ h => nomatch h) (fun z h1 h2 h3 => lp_off h1 h2 h3) ?_
        show IntsAre _ (allTo i ++ (rowTo i k ++ [_]))
        rw [← List.append_assoc]
        exact hP'.append (.cons _ _ .nil)
      · rintro ⟨ws, nw⟩ u' h7 tk7 hP' F7 N7
        clear F6 N6
        dsimp only at hP' F7 N7
        k_steps
        refine lp_end (ws, nw) F7 N7 (by kcf_all) (by kcf_all) hoff (fun _ h => nomatch h) ?_ ?_
        · intro z h1 h2 h3
          exact (lp_off (ps := []) (fun e => by rw [e] at h3; exact absurd h3 (by decide)) (by intro _ h; cases h) rfl).trans (lp_off h1 h2 h3)
        · simp only [allTo, if_neg h15, List.append_nil]
          exact hP'
  · rintro ⟨vs, n⟩ u h4 tk4 hP F4 N4
    dsimp only at hP F4 N4
    clear F2 N2
    k_steps
    exact hret _ [(D, listOf vs.toArray n)] h4 tk4 F4.keep (fun p hp => ⟨(N4 p hp).1, (N4 p hp).2.2⟩) ⟨D, vs, n, rfl, rfl, hP⟩
end Mine

end
section
namespace Mine
set_option maxHeartbeats 8000000 in
theorem ac_symbols_C (w : World) (mean : ExcName → Option Value) (mg mb : Str → Option Value) (x : Str) (t : Tok) (hs : List Int) (hx : x.length < 1000) (hlen : hs.length < 1000) (hr : (Txt.split x (Str.ofString " ")).map (rdB 16) = hs.map some) :
    Pur w mean mg mb 37 [.str x t] 4 (fun _ => True) (fun r tl => ∃ a vs n, r = .ref a ∧ tl = [(a, { cls := .type "tuple", data := .seq vs.toArray n })] ∧ IntsAre vs (hs ++ (allTo 16).filter fun k => !(hs.any fun x => x == k))) := by
  k_with_none
  k_with "all9" => with_reducible assumption
  k_with "units9" => (have hcL9 := cLine_is; (simp only [units_under_make, units_in1, units_deeper]); (try dsimp only [ktrTop]); omega)
  k_with "pu_rest" => ((case kA => exact rfl); (case kF => exact rfl); (case kK => assumption); (case k1 => k_asm); (case k2 => k_asm); (case k3 => k_asm); (case k5 => k_asm); (case k6 => k_is); (case k7 => k_is); (case k8 => ktr_room); (case k9 => exact BindsTo.of_eq rfl); (case c5 => decide); (case kB => exact locs rfl); (case c2 => exact rfl); (case c3 => exact rfl); (case c4 => exact rfl); k_whole; intro L' h' F' N' B' X' T'; (try dsimp only); (try k_fold))
  k_with "eval ListComp" => (k_here; (with_reducible show wpAny _ _ (eval (Expr.ListComp _ [⟨Expr.Name _ _, _, [], _⟩] _ _) _) _ _ _); k_dflt (refine' Mine.comp_U ?k0 ?k1 ?k2 ?k3 ?k4 ?k5 ?_ (by intro _; rfl); (case k0 => k_asm); (case k1 => with_unfolding_all rfl); (case k2 => decide); (case k3 => rfl); (case k4 => decide); (case k5 => rfl)))
  k_with "eval ListComp" => (k_here; (with_reducible show wpAny _ _ (eval (Expr.ListComp _ [⟨Expr.Name _ _, _, [_], _⟩] _ _) _) _ _ _); k_dflt (refine' Mine.comp_T ?k0 ?k1 ?k2 ?k3 ?k4 ?k5 ?_ (by intro _; rfl); (case k0 => k_asm); (case k1 => with_unfolding_all rfl); (case k2 => decide); (case k3 => rfl); (case k4 => decide); (case k5 => rfl)))
  k_with "call builtin:str.split" => (k_here; (with_reducible show wpAny _ _ (call (Value.builtin "str.split") [Value.str _ _, Value.str _ _]) _ _ _); k_dflt (refine' KSpl.split1 ?k1 ?k2 ?k3 ?_ ?k4; (case k1 => k_asm); (case k2 => k_asm); (case k3 => decide); (case k4 => (rw [PySem.sizeLine_eq]; omega))); intro D' l' h' k' e' a' F' N' l1; (try k_lt l1))
  k_with "call type:int" => (k_here; (with_reducible show wpAny _ _ (call (Value.type "int") [Value.str _ _, Value.int _ _]) _ _ _); k_dflt (first | (refine' Mine.call_intB (b := 16) (.inr rfl) ?k1 ?_; (case k1 => assumption)) | (refine' Mine.call_intB (b := 2) (.inl rfl) ?k1 ?_; (case k1 => assumption))))
  k_with "exec For Name Call cons nil" => (k_here; (rename Fr _ _ _ _ => lF'); (with_unfolding_all refine' Mine.For_lock lF' ?k1 ?k2 ?_ (by intro _; rfl) (by passes_own); (case k1 => exact rfl); (case k2 => exact rfl); k_whole))
  k_with "exec For Name Name cons nil" => (k_here; (rename Fr _ _ _ _ => lF'); (with_unfolding_all refine' Mine.For_lock lF' ?k1 ?k2 ?_ (by intro _; rfl) (by passes_own); (case k1 => exact rfl); (case k2 => exact rfl); k_whole))
  k_with "pu_call" => ((case B9 => k_asm); (case F9 => k_asm); (case X9 => k_asm); (case N9 => k_asm); (case T9 => k_asm); (case k9 => first | exact rfl | assumption); (case d9 => ktr_room); (case u9 => ktr_units))
  k_with "call type:tuple" => (k_here; (with_reducible show wpAny _ _ (call (Value.type "tuple") [Value.ref _]) _ _ _); k_dflt (refine' Mine.tuple_rangeK ?k0 ?k1 ?k2 ?k3 ?k4 ?k5 ?k6 ?_; (case k0 => rfl); (case k1 => k_asm); (case k2 => k_asm); (case k3 => assumption); (case k4 => decide); (case k5 => rfl); (case k6 => decide)); intro D' vs' h' tk' F' N' l1 i9; (try k_lt l1); (try k_sweep))
  k_with "call builtin:len" => (k_here; (with_reducible show wpAny _ _ (call (Value.builtin "len") [Value.ref _]) _ _ _); k_dflt (refine' Mine.len_tupK ?k1 ?k2 ?k3 ?_; (case k1 => first | exact Fr.tup (by k_asm) (by assumption) | exact News.isTup (by k_asm) (by k_mem)); (case k2 => assumption); (case k3 => omega)))
  k_with "call builtin:sum" => (k_here; (with_reducible show wpAny _ _ (call (Value.builtin "sum") [Value.ref _]) _ _ _); k_dflt (refine' Mine.sum_tupK ?k0 ?k1 ?k2 ?k3 ?k4 ?_; (case k0 => rfl); (case k1 => k_asm); (case k2 => k_asm); (case k3 => first | exact Fr.tup (by k_asm) (by assumption) | exact News.isTup (by k_asm) (by k_mem)); (case k4 => assumption)); intro h' tk' t' F' N'; (try k_sweep))
  k_with "call builtin:min" => (k_here; (with_reducible show wpAny _ _ (call (Value.builtin "min") [Value.ref _]) _ _ _); k_dflt (refine' Mine.min_tupK ?k0 ?k1 ?k2 ?k3 ?k4 ?k5 ?_; (case k0 => rfl); (case k1 => k_asm); (case k2 => k_asm); (case k3 => first | exact Fr.tup (by k_asm) (by assumption) | exact News.isTup (by k_asm) (by k_mem)); (case k4 => assumption); (case k5 => omega)); intro h' M' t' tk' F' N' a' b'; (try k_sweep))
  k_with "subscriptTail" => (k_here; (with_reducible show wpAny _ _ (subscriptTail _ _ (Value.ref _) (Value.int _ _)) _ _ _); k_dflt (refine' Mine.item_tupI ?k1 ?k2 ?k3 ?k4 ?k5 ?_ (by with_unfolding_all rfl); (case k1 => first | exact Fr.tup (by k_asm) (by assumption) | exact News.isTup (by k_asm) (by k_mem)); (case k2 => assumption); (case k3 => omega); (case k4 => omega); (case k5 => omega)); intro t')
  k_with "subscriptTail" => (k_here; (with_reducible show wpAny _ _ (subscriptTail _ _ (Value.ref _) (Value.int _ _)) _ _ _); k_dflt (refine' Mine.item_listI ?k1 ?k2 ?k3 ?k4 ?k5 ?_ (by with_unfolding_all rfl); (case k1 => exact News.isList (by k_asm) (by k_mem)); (case k2 => assumption); (case k3 => omega); (case k4 => omega); (case k5 => omega)); intro t')
  k_with "subscriptTail" => (k_here; (with_reducible show wpAny _ _ (subscriptTail _ _ (Value.ref _) (Value.int _ _)) _ _ _); k_dflt (refine' Mine.item_listS ?k1 ?k2 ?k3 ?k4 ?k5 ?_ (by with_unfolding_all rfl); (case k1 => exact News.isList (by k_asm) (by k_mem)); (case k2 => assumption); (case k3 => omega); (case k4 => omega); (case k5 => omega)); intro y' t' hy')
  k_with "call ref" => (k_here; (with_reducible show wpAny _ _ (call (Value.ref 25) _) _ _ _); k_dflt (refine' Mine.pur_use (Mine.read_head_C _ _ _ _ _ _ ?hs ?hx ?hlen ?hr) ?B9 ?F9 ?X9 ?N9 ?T9 ?k9 ?d9 ?u9 trivial ?_; (case hr => assumption); (case hx => assumption); (case hlen => assumption); walk_at "pu_call"); intro r' tl' h' tk' F' N' ne' ho'; obtain ⟨a9, vs9, n9, e9, t9, i9⟩ := ho'; subst e9; subst t9; (simp only [List.cons_append, List.nil_append] at N'); (replace ne' := Mine.ne_one ne'); (simp only [Mine.AllNe, and_true] at ne'); (try k_sweep))
  k_with "call ref" => (k_here; (with_reducible show wpAny _ _ (call (Value.ref 32) _) _ _ _); k_dflt (refine' Mine.pur_use (Mine.all_symbols_C _ _ _ _) ?B9 ?F9 ?X9 ?N9 ?T9 ?k9 ?d9 ?u9 trivial ?_; walk_at "pu_call"); intro r' tl' h2 tk2 F2 N2 ne2 ho'; obtain ⟨al, vs2, n2, e9, t9, i2⟩ := ho'; subst e9; subst t9; (simp only [List.cons_append, List.nil_append] at N2); (replace ne2 := Mine.ne_one ne2); (simp only [Mine.AllNe, and_true] at ne2); (try k_sweep))
  w_top off
  unfold Pur
  k_fill
  intro dp un gd cn cs a ccd cl outer A₀ base h₀ L m s Q E B F X T hk hdp hun hp hret
  refine wpAny_call ?_
  k_dflt (refine' Mine.code_pureC (K := Mine.hd.heap_39 w.params) (binds := [(Str.ofString "text", .str x t)]) ?k1 ?k2 ?k3 ?k5 ?kA ?kF ?kK ?k6 ?k7 ?k8 ?k9 ?kB ?kD ?_ ?c2 ?c3 ?c4)
  (case kA => exact rfl); (case kF => exact rfl); (case kK => assumption); (case k1 => k_asm); (case k2 => k_asm); (case k3 => k_asm); (case k5 => k_asm); (case k6 => k_is); (case k7 => k_is); (case k8 => ktr_room); (case k9 => exact BindsTo.of_eq rfl); (case kB => exact rfl); (case kD => decide +kernel); (case c2 => exact rfl); (case c3 => exact rfl); (case c4 => exact rfl); k_whole; intro L' h' tk' cells' F' N' Y' B' X' T'; k_cells Y'; (try simp only [List.cons_append, List.nil_append] at N'); (try dsimp only); (try k_fold)
  clear B F X T
  show wpAny _ _ _ _ _ _
  k_fold
  k_steps
  rename IntsAre _ hs => i1
  refine at_list rfl F2 N2 (.inr ⟨_, List.mem_cons_self, rfl, _, rfl⟩) (by have := i2.length; have := allTo_len 16; rw [List.size_toArray, PySem.sizeLine_eq]; lia) fun g => ?_
  dsimp only
  refine rest_filter (fun k => !(hs.any fun x => x == k)) (by rw [List.size_toArray]; exact i2.length.symm) (fun i v _ hv => ?_) (fun k t I oI C oC D m₂ ys h3 tk3 E' hk hC hm F3 N3 off ne => ?_) fun ys hys => ?_
  · obtain ⟨k, t, e1, e2⟩ := IntsAre.at i2 i v (by simpa using hv)
    exact ⟨k, t, e2, e1⟩
  · clear F2 N2
    k_steps
    · exact CompEnd.intro (by assumption) (by assumption) _ (fun _ h => h) off (.inr ⟨_, List.mem_cons_self, rfl, _, rfl⟩) ⟨rfl, by rename _ = true => hq; rw [hq]; rfl⟩
    · exact CompEnd.intro (by assumption) (by assumption) _ (fun _ h => h) off (.inr ⟨_, List.mem_cons_self, rfl, _, rfl⟩) ⟨rfl, by rename _ = false => hq; rw [hq]; rfl, _, rfl⟩
  · intro D3 h3 tk3 F3 N3 o3
    clear F2 N2
    have hy := hys.length
    have hf := List.length_filter_le (fun k => !(hs.any fun x => x == k)) (allTo 16)
    have ha := allTo_len 16
    k_steps
    rename Fr _ _ _ _ => F3
    rename News _ _ _ _ => N3
    rename IntsAre _ (hs ++ _) => i4
    exact hret _ [(_, _)] _ _ F3.keep (fun p hp => ⟨(N3 p (by rw [List.mem_singleton.mp hp]; exact List.mem_cons_self)).1, (N3 p (by rw [List.mem_singleton.mp hp]; exact List.mem_cons_self)).2.2⟩) ⟨_, _, _, rfl, rfl, i4⟩
end Mine

end
section
namespace Mine
noncomputable def lumaN : List Int := [1, 2, 3, 0, 4, 17, 5, 18, 33, 49, 65, 6, 19, 81, 97, 7, 34, 113, 20, 50, 129, 145, 161, 8, 35, 66, 177, 193, 21, 82, 209, 240, 36, 51, 98, 114, 130]
noncomputable def chromaN : List Int := [0, 1, 2, 3, 17, 4, 5, 33, 49, 6, 18, 65, 81, 7, 97, 113, 19, 34, 50, 129, 8, 20, 66, 145, 161, 177, 193, 9, 35, 51, 82, 240, 21, 98, 114, 209, 10, 22, 36, 52, 225, 37, 241]
theorem luma_r : (Txt.split (Str.ofString "01 02 03 00 04 11 05 12 21 31 41 06 13 51 61 07 22 71 14 32 81 91 a1 08 23 42 b1 c1 15 52 d1 f0 24 33 62 72 82") (Str.ofString " ")).map (rdB 16) = lumaN.map some := by decide +kernel
theorem chroma_r : (Txt.split (Str.ofString "00 01 02 03 11 04 05 21 31 06 12 41 51 07 61 71 13 22 32 81 08 14 42 91 a1 b1 c1 09 23 33 52 f0 15 62 72 d1 0a 16 24 34 e1 25 f1") (Str.ofString " ")).map (rdB 16) = chromaN.map some := by decide +kernel
noncomputable def cadr (k p : Int) : Addr := if k = 0 then (if p = 0 then 15 else 16) else (if p = 0 then 18 else 19)
noncomputable def symL (k p : Int) : List Int := if k = 0 then rangeKs 0 12 else
  (if p = 0 then lumaN else chromaN) ++ (allTo 16).filter fun k => !((if p = 0 then lumaN else chromaN).any fun x => x == k)
theorem sym_q {k p q : Int} (h : q = 0 ∧ p = 0 ∨ q = 1 ∧ p ≠ 0) : symL k p = symL k q ∧ cadr k p = cadr k q := by
  rcases h with ⟨rfl, rfl⟩ | ⟨rfl, h⟩
  · exact ⟨rfl, rfl⟩
  · exact ⟨by simp [symL, h], by simp [cadr, h]⟩
section
variable {prog : Program} {w : World} {A : Around} {E : Value → Shared → Prop} {s : Shared} {h₀ : Heap} {L : Addr} {m : Str → Option Value} {news : List (Addr × Obj)} {env : Env} {st : Stmt} {Q : Flow → Shared → Prop}
noncomputable def PlacePost (h₀ : Heap) (L : Addr) (m : Str → Option Value) (news : List (Addr × Obj)) (s : Shared) (x : Str) (p : Int) (fl : Flow) (s' : Shared) : Prop :=
  fl = .next ∧ ∃ (q : Int) (t : Tok) (h' : Heap) (tk' : Nat), (q = 0 ∧ p = 0 ∨ q = 1 ∧ p ≠ 0) ∧ s' = { s with heap := h', toks := tk' } ∧ Fr h₀ L h' (fun y => if y = x then some (.int q t) else m y) ∧ News h₀ L h' news
theorem place_cell (F : Fr h₀ L s.heap m) (N : News h₀ L s.heap news) (x : Str) (p : Int)
    (h1 : wpAny (model prog w) A (exec st env) (PlacePost h₀ L m news s x p) E s)
    (h2 : ∀ (q : Int) (t : Tok) (h' : Heap) (tk' : Nat), (q = 0 ∧ p = 0 ∨ q = 1 ∧ p ≠ 0) → Fr h₀ L h' (fun y => if y = x then some (.int q t) else m y) → News h₀ L h' news → Q .next { s with heap := h', toks := tk' }) : wpAny (model prog w) A (exec st env) Q E s :=
  wpAny_mono h1 (by rintro _ _ ⟨rfl, q, t, h', tk', hq, rfl, F', N'⟩; exact h2 q t h' tk' hq F' N') fun _ _ e => e
end
theorem ac_luma (w : World) (mean : ExcName → Option Value) (mg mb : Str → Option Value) (t : Tok) :
    Pur w mean mg mb 37 [.str (Str.ofString "01 02 03 00 04 11 05 12 21 31 41 06 13 51 61 07 22 71 14 32 81 91 a1 08 23 42 b1 c1 15 52 d1 f0 24 33 62 72 82") t] 4 (fun _ => True) (fun r tl => ∃ a vs n, r = .ref a ∧ tl = [(a, { cls := .type "tuple", data := .seq vs.toArray n })] ∧ IntsAre vs (lumaN ++ (allTo 16).filter fun k => !(lumaN.any fun x => x == k))) :=
  ac_symbols_C w mean mg mb (Str.ofString "01 02 03 00 04 11 05 12 21 31 41 06 13 51 61 07 22 71 14 32 81 91 a1 08 23 42 b1 c1 15 52 d1 f0 24 33 62 72 82") t lumaN (by decide +kernel) (by decide) luma_r
theorem ac_chroma (w : World) (mean : ExcName → Option Value) (mg mb : Str → Option Value) (t : Tok) :
    Pur w mean mg mb 37 [.str (Str.ofString "00 01 02 03 11 04 05 21 31 06 12 41 51 07 61 71 13 22 32 81 08 14 42 91 a1 b1 c1 09 23 33 52 f0 15 62 72 d1 0a 16 24 34 e1 25 f1") t] 4 (fun _ => True) (fun r tl => ∃ a vs n, r = .ref a ∧ tl = [(a, { cls := .type "tuple", data := .seq vs.toArray n })] ∧ IntsAre vs (chromaN ++ (allTo 16).filter fun k => !(chromaN.any fun x => x == k))) :=
  ac_symbols_C w mean mg mb (Str.ofString "00 01 02 03 11 04 05 21 31 06 12 41 51 07 61 71 13 22 32 81 08 14 42 91 a1 b1 c1 09 23 33 52 f0 15 62 72 d1 0a 16 24 34 e1 25 f1") t chromaN (by decide +kernel) (by decide) chroma_r
end Mine
namespace Mine
set_option maxHeartbeats 8000000 in
theorem std_table_C (w : World) (mean : ExcName → Option Value) (mg mb : Str → Option Value) (k p : Int) (tk ts : Tok) (hkk : k = 0 ∨ k = 1) (hpp : p = 0 ∨ p = 1 ∨ p = 2 ∨ p = 3) :
    Pur w mean mg mb 44 [.int k tk, .int p ts] 6 (fun _ => True) (fun r tl => ∃ a y vs n nn, r = .ref a ∧ tl = [(a, { cls := .type "tuple", data := .seq [.ref (cadr k p), .ref y].toArray nn }), (y, { cls := .type "tuple", data := .seq vs.toArray n })] ∧ IntsAre vs (symL k p)) := by
  k_with_none
  k_with "all9" => with_reducible assumption
  k_with "units9" => (have hcL9 := cLine_is; (simp only [units_under_make, units_in1, units_deeper]); (try dsimp only [ktrTop]); omega)
  k_with "pu_rest" => ((case kA => exact rfl); (case kF => exact rfl); (case kK => assumption); (case k1 => k_asm); (case k2 => k_asm); (case k3 => k_asm); (case k5 => k_asm); (case k6 => k_is); (case k7 => k_is); (case k8 => ktr_room); (case k9 => exact BindsTo.of_eq rfl); (case c5 => decide); (case kB => exact locs rfl); (case c2 => exact rfl); (case c3 => exact rfl); (case c4 => exact rfl); k_whole; intro L' h' F' N' B' X' T'; (try dsimp only); (try k_fold))
  k_with "eval ListComp" => (k_here; (with_reducible show wpAny _ _ (eval (Expr.ListComp _ [⟨Expr.Name _ _, _, [], _⟩] _ _) _) _ _ _); k_dflt (refine' Mine.comp_U ?k0 ?k1 ?k2 ?k3 ?k4 ?k5 ?_ (by intro _; rfl); (case k0 => k_asm); (case k1 => with_unfolding_all rfl); (case k2 => decide); (case k3 => rfl); (case k4 => decide); (case k5 => rfl)))
  k_with "eval ListComp" => (k_here; (with_reducible show wpAny _ _ (eval (Expr.ListComp _ [⟨Expr.Name _ _, _, [_], _⟩] _ _) _) _ _ _); k_dflt (refine' Mine.comp_T ?k0 ?k1 ?k2 ?k3 ?k4 ?k5 ?_ (by intro _; rfl); (case k0 => k_asm); (case k1 => with_unfolding_all rfl); (case k2 => decide); (case k3 => rfl); (case k4 => decide); (case k5 => rfl)))
  k_with "call builtin:str.split" => (k_here; (with_reducible show wpAny _ _ (call (Value.builtin "str.split") [Value.str _ _, Value.str _ _]) _ _ _); k_dflt (refine' KSpl.split1 ?k1 ?k2 ?k3 ?_ ?k4; (case k1 => k_asm); (case k2 => k_asm); (case k3 => decide); (case k4 => (rw [PySem.sizeLine_eq]; omega))); intro D' l' h' k' e' a' F' N' l1; (try k_lt l1))
  k_with "call type:int" => (k_here; (with_reducible show wpAny _ _ (call (Value.type "int") [Value.str _ _, Value.int _ _]) _ _ _); k_dflt (first | (refine' Mine.call_intB (b := 16) (.inr rfl) ?k1 ?_; (case k1 => assumption)) | (refine' Mine.call_intB (b := 2) (.inl rfl) ?k1 ?_; (case k1 => assumption))))
  k_with "exec For Name Call cons nil" => (k_here; (rename Fr _ _ _ _ => lF'); (with_unfolding_all refine' Mine.For_lock lF' ?k1 ?k2 ?_ (by intro _; rfl) (by passes_own); (case k1 => exact rfl); (case k2 => exact rfl); k_whole))
  k_with "exec For Name Name cons nil" => (k_here; (rename Fr _ _ _ _ => lF'); (with_unfolding_all refine' Mine.For_lock lF' ?k1 ?k2 ?_ (by intro _; rfl) (by passes_own); (case k1 => exact rfl); (case k2 => exact rfl); k_whole))
  k_with "pu_call" => ((case B9 => k_asm); (case F9 => k_asm); (case X9 => k_asm); (case N9 => k_asm); (case T9 => k_asm); (case k9 => first | exact rfl | assumption); (case d9 => ktr_room); (case u9 => ktr_units))
  k_with "call type:tuple" => (k_here; (with_reducible show wpAny _ _ (call (Value.type "tuple") [Value.ref _]) _ _ _); k_dflt (refine' Mine.tuple_rangeK ?k0 ?k1 ?k2 ?k3 ?k4 ?k5 ?k6 ?_; (case k0 => rfl); (case k1 => k_asm); (case k2 => k_asm); (case k3 => assumption); (case k4 => decide); (case k5 => rfl); (case k6 => decide)); intro D' vs' h' tk' F' N' l1 i9; (try k_lt l1); (try k_sweep))
  k_with "call builtin:len" => (k_here; (with_reducible show wpAny _ _ (call (Value.builtin "len") [Value.ref _]) _ _ _); k_dflt (refine' Mine.len_tupK ?k1 ?k2 ?k3 ?_; (case k1 => first | exact Fr.tup (by k_asm) (by assumption) | exact News.isTup (by k_asm) (by k_mem)); (case k2 => assumption); (case k3 => omega)))
  k_with "call builtin:sum" => (k_here; (with_reducible show wpAny _ _ (call (Value.builtin "sum") [Value.ref _]) _ _ _); k_dflt (refine' Mine.sum_tupK ?k0 ?k1 ?k2 ?k3 ?k4 ?_; (case k0 => rfl); (case k1 => k_asm); (case k2 => k_asm); (case k3 => first | exact Fr.tup (by k_asm) (by assumption) | exact News.isTup (by k_asm) (by k_mem)); (case k4 => assumption)); intro h' tk' t' F' N'; (try k_sweep))
  k_with "call builtin:min" => (k_here; (with_reducible show wpAny _ _ (call (Value.builtin "min") [Value.ref _]) _ _ _); k_dflt (refine' Mine.min_tupK ?k0 ?k1 ?k2 ?k3 ?k4 ?k5 ?_; (case k0 => rfl); (case k1 => k_asm); (case k2 => k_asm); (case k3 => first | exact Fr.tup (by k_asm) (by assumption) | exact News.isTup (by k_asm) (by k_mem)); (case k4 => assumption); (case k5 => omega)); intro h' M' t' tk' F' N' a' b'; (try k_sweep))
  k_with "subscriptTail" => (k_here; (with_reducible show wpAny _ _ (subscriptTail _ _ (Value.ref _) (Value.int _ _)) _ _ _); k_dflt (refine' Mine.item_tupI ?k1 ?k2 ?k3 ?k4 ?k5 ?_ (by with_unfolding_all rfl); (case k1 => first | exact Fr.tup (by k_asm) (by assumption) | exact News.isTup (by k_asm) (by k_mem)); (case k2 => assumption); (case k3 => omega); (case k4 => omega); (case k5 => omega)); intro t')
  k_with "subscriptTail" => (k_here; (with_reducible show wpAny _ _ (subscriptTail _ _ (Value.ref _) (Value.int _ _)) _ _ _); k_dflt (refine' Mine.item_listI ?k1 ?k2 ?k3 ?k4 ?k5 ?_ (by with_unfolding_all rfl); (case k1 => exact News.isList (by k_asm) (by k_mem)); (case k2 => assumption); (case k3 => omega); (case k4 => omega); (case k5 => omega)); intro t')
  k_with "subscriptTail" => (k_here; (with_reducible show wpAny _ _ (subscriptTail _ _ (Value.ref _) (Value.int _ _)) _ _ _); k_dflt (refine' Mine.item_listS ?k1 ?k2 ?k3 ?k4 ?k5 ?_ (by with_unfolding_all rfl); (case k1 => exact News.isList (by k_asm) (by k_mem)); (case k2 => assumption); (case k3 => omega); (case k4 => omega); (case k5 => omega)); intro y' t' hy')
  k_with "call ref" => (k_here; (with_reducible show wpAny _ _ (call (Value.ref 37) _) _ _ _); k_dflt (first | (refine' Mine.pur_use (Mine.ac_luma _ _ _ _ _) ?B9 ?F9 ?X9 ?N9 ?T9 ?k9 ?d9 ?u9 trivial ?_; walk_at "pu_call") | (refine' Mine.pur_use (Mine.ac_chroma _ _ _ _ _) ?B9 ?F9 ?X9 ?N9 ?T9 ?k9 ?d9 ?u9 trivial ?_; walk_at "pu_call")); intro r' tl' h' tk' F' N' ne' ho'; obtain ⟨a9, vs9, n9, e9, t9, i9⟩ := ho'; subst e9; subst t9; (simp only [List.cons_append, List.nil_append] at N'); (replace ne' := Mine.ne_one ne'); (simp only [Mine.AllNe, and_true] at ne'); (try k_sweep))
  k_with "exec Assign" => (k_here; (with_reducible show wpAny _ _ (exec (Stmt.Assign _ _ _) _) _ _ _); (fail_if_success (have f9 : Mine.Flag := (by assumption))); refine Mine.lock_in ?_)
  w_top off
  unfold Pur
  k_fill
  intro dp un gd cn cs a ccd cl outer A₀ base h₀ L m s Q E B F X T hk hdp hun hp hret
  refine wpAny_call ?_
  k_dflt (refine' Mine.code_pure (K := Mine.hd.heap_39 w.params) (binds := [(Str.ofString "kind", .int k tk), (Str.ofString "slot", .int p ts)]) ?k1 ?k2 ?k3 ?k5 ?kA ?kF ?kK ?k6 ?k7 ?k8 ?k9 ?kB ?_ ?c2 ?c3 ?c4 ?c5)
  (case kA => exact rfl); (case kF => exact rfl); (case kK => assumption); (case k1 => k_asm); (case k2 => k_asm); (case k3 => k_asm); (case k5 => k_asm); (case k6 => k_is); (case k7 => k_is); (case k8 => ktr_room); (case k9 => exact BindsTo.of_eq rfl); (case c5 => decide); (case kB => exact locs rfl); (case c2 => exact rfl); (case c3 => exact rfl); (case c4 => exact rfl); k_whole; intro L' h' F' N' B' X' T'; (try dsimp only); (try k_fold)
  clear B F X T
  k_steps
  unfold Mine.Lock
  refine Mine.place_cell (by k_asm) (by k_asm) (Str.ofString "place") p ?_ ?_
  · have fl : Mine.Flag := trivial
    show wpAny _ _ _ _ _ _
    rcases hpp with rfl | rfl | rfl | rfl
    all_goals (
      k_steps
      rename Fr _ _ _ _ => F3
      rename News _ _ _ _ => N3
      first
        | exact ⟨rfl, _, _, _, _, .inl ⟨rfl, rfl⟩, rfl, F3, N3⟩
        | exact ⟨rfl, _, _, _, _, .inr ⟨rfl, by decide⟩, rfl, F3, N3⟩)
  intro q t h5 tk5 hq F5 N5
  rw [(Mine.sym_q hq).1, (Mine.sym_q hq).2] at hret
  have hq' : q = 0 ∨ q = 1 := hq.elim (fun e => .inl e.1) (fun e => .inr e.1)
  clear hq hpp
  show wpAny _ _ _ _ _ _
  rcases hkk with rfl | rfl <;> rcases hq' with rfl | rfl
  all_goals (
    k_steps
    rename Fr _ _ _ _ => F3
    rename News _ _ _ _ => N3
    rename IntsAre _ _ => i3
    exact hret _ [(_, _), (_, _)] _ _ F3.keep (fun p hp => ⟨(N3 p (by revert p hp; kcf_all)).1, (N3 p (by revert p hp; kcf_all)).2.2⟩) ⟨_, _, _, _, _, rfl, rfl, i3⟩)
end Mine

end
section
namespace Mine
theorem take_mem {ms : List Int} {i : Nat} {k : Int} (hk : ms[i]? = some k) : (fun k' : Int => decide (k' ∈ ms.take i) || decide (k' = k)) = fun k' => decide (k' ∈ ms.take (i + 1)) := by
  funext k'
  rw [List.take_add_one, hk]
  simp
theorem take_not {ms : List Int} {i : Nat} {k : Int} (hk : ms[i]? = some k) (hnd : ms.Nodup) : decide (k ∈ ms.take i) = false := by
  refine decide_eq_false fun h => ?_
  have e : ms = ms.take (i + 1) ++ ms.drop (i + 1) := (List.take_append_drop _ _).symm
  rw [List.take_add_one, hk, List.append_assoc] at e
  rw [e] at hnd
  exact (List.nodup_append.mp hnd).2.2 k h k (by simp) rfl
set_option maxHeartbeats 8000000 in
theorem check_told_C (w : World) (mean : ExcName → Option Value) (mg mb : Str → Option Value) (c y : Addr) (cs ys : List Value) (ns ms : List Int) (ic : IntsAre cs ns) (iy : IntsAre ys ms) (hn : ns.length = 16) (hpos : ∀ n ∈ ns, 0 ≤ n) (hsum : ns.sum = (ms.length : Int)) (hm : ms.length ≤ 256) (hnd : ms.Nodup) :
    Pur w mean mg mb 102 [.ref c, .ref y] 2 (fun h => IsTup h c cs.toArray ∧ IsTup h y ys.toArray) (fun r tl => r = .none ∧ tl = []) := by
  k_with_none
  k_with "all9" => with_reducible assumption
  k_with "units9" => (have hcL9 := cLine_is; (simp only [units_under_make, units_in1, units_deeper]); (try dsimp only [ktrTop]); omega)
  k_with "pu_rest" => ((case kA => exact rfl); (case kF => exact rfl); (case kK => assumption); (case k1 => k_asm); (case k2 => k_asm); (case k3 => k_asm); (case k5 => k_asm); (case k6 => k_is); (case k7 => k_is); (case k8 => ktr_room); (case k9 => exact BindsTo.of_eq rfl); (case c5 => decide); (case kB => exact locs rfl); (case c2 => exact rfl); (case c3 => exact rfl); (case c4 => exact rfl); k_whole; intro L' h' F' N' B' X' T'; (try dsimp only); (try k_fold))
  k_with "eval ListComp" => (k_here; (with_reducible show wpAny _ _ (eval (Expr.ListComp _ [⟨Expr.Name _ _, _, [], _⟩] _ _) _) _ _ _); k_dflt (refine' Mine.comp_U ?k0 ?k1 ?k2 ?k3 ?k4 ?k5 ?_ (by intro _; rfl); (case k0 => k_asm); (case k1 => with_unfolding_all rfl); (case k2 => decide); (case k3 => rfl); (case k4 => decide); (case k5 => rfl)))
  k_with "eval ListComp" => (k_here; (with_reducible show wpAny _ _ (eval (Expr.ListComp _ [⟨Expr.Name _ _, _, [_], _⟩] _ _) _) _ _ _); k_dflt (refine' Mine.comp_T ?k0 ?k1 ?k2 ?k3 ?k4 ?k5 ?_ (by intro _; rfl); (case k0 => k_asm); (case k1 => with_unfolding_all rfl); (case k2 => decide); (case k3 => rfl); (case k4 => decide); (case k5 => rfl)))
  k_with "call builtin:str.split" => (k_here; (with_reducible show wpAny _ _ (call (Value.builtin "str.split") [Value.str _ _, Value.str _ _]) _ _ _); k_dflt (refine' KSpl.split1 ?k1 ?k2 ?k3 ?_ ?k4; (case k1 => k_asm); (case k2 => k_asm); (case k3 => decide); (case k4 => (rw [PySem.sizeLine_eq]; omega))); intro D' l' h' k' e' a' F' N' l1; (try k_lt l1))
  k_with "call type:int" => (k_here; (with_reducible show wpAny _ _ (call (Value.type "int") [Value.str _ _, Value.int _ _]) _ _ _); k_dflt (first | (refine' Mine.call_intB (b := 16) (.inr rfl) ?k1 ?_; (case k1 => assumption)) | (refine' Mine.call_intB (b := 2) (.inl rfl) ?k1 ?_; (case k1 => assumption))))
  k_with "exec For Name Call cons nil" => (k_here; (rename Fr _ _ _ _ => lF'); (with_unfolding_all refine' Mine.For_lock lF' ?k1 ?k2 ?_ (by intro _; rfl) (by passes_own); (case k1 => exact rfl); (case k2 => exact rfl); k_whole))
  k_with "exec For Name Name cons nil" => (k_here; (rename Fr _ _ _ _ => lF'); (with_unfolding_all refine' Mine.For_lock lF' ?k1 ?k2 ?_ (by intro _; rfl) (by passes_own); (case k1 => exact rfl); (case k2 => exact rfl); k_whole))
  k_with "pu_call" => ((case B9 => k_asm); (case F9 => k_asm); (case X9 => k_asm); (case N9 => k_asm); (case T9 => k_asm); (case k9 => first | exact rfl | assumption); (case d9 => ktr_room); (case u9 => ktr_units))
  k_with "call type:tuple" => (k_here; (with_reducible show wpAny _ _ (call (Value.type "tuple") [Value.ref _]) _ _ _); k_dflt (refine' Mine.tuple_rangeK ?k0 ?k1 ?k2 ?k3 ?k4 ?k5 ?k6 ?_; (case k0 => rfl); (case k1 => k_asm); (case k2 => k_asm); (case k3 => assumption); (case k4 => decide); (case k5 => rfl); (case k6 => decide)); intro D' vs' h' tk' F' N' l1 i9; (try k_lt l1); (try k_sweep))
  k_with "call builtin:len" => (k_here; (with_reducible show wpAny _ _ (call (Value.builtin "len") [Value.ref _]) _ _ _); k_dflt (refine' Mine.len_tupK ?k1 ?k2 ?k3 ?_; (case k1 => first | exact Fr.tup (by k_asm) (by assumption) | exact News.isTup (by k_asm) (by k_mem)); (case k2 => assumption); (case k3 => omega)))
  k_with "call builtin:sum" => (k_here; (with_reducible show wpAny _ _ (call (Value.builtin "sum") [Value.ref _]) _ _ _); k_dflt (refine' Mine.sum_tupK ?k0 ?k1 ?k2 ?k3 ?k4 ?_; (case k0 => rfl); (case k1 => k_asm); (case k2 => k_asm); (case k3 => first | exact Fr.tup (by k_asm) (by assumption) | exact News.isTup (by k_asm) (by k_mem)); (case k4 => assumption)); intro h' tk' t' F' N'; (try k_sweep))
  k_with "call builtin:min" => (k_here; (with_reducible show wpAny _ _ (call (Value.builtin "min") [Value.ref _]) _ _ _); k_dflt (refine' Mine.min_tupK ?k0 ?k1 ?k2 ?k3 ?k4 ?k5 ?_; (case k0 => rfl); (case k1 => k_asm); (case k2 => k_asm); (case k3 => first | exact Fr.tup (by k_asm) (by assumption) | exact News.isTup (by k_asm) (by k_mem)); (case k4 => assumption); (case k5 => omega)); intro h' M' t' tk' F' N' a' b'; (try k_sweep))
  k_with "subscriptTail" => (k_here; (with_reducible show wpAny _ _ (subscriptTail _ _ (Value.ref _) (Value.int _ _)) _ _ _); k_dflt (refine' Mine.item_tupI ?k1 ?k2 ?k3 ?k4 ?k5 ?_ (by with_unfolding_all rfl); (case k1 => first | exact Fr.tup (by k_asm) (by assumption) | exact News.isTup (by k_asm) (by k_mem)); (case k2 => assumption); (case k3 => omega); (case k4 => omega); (case k5 => omega)); intro t')
  k_with "subscriptTail" => (k_here; (with_reducible show wpAny _ _ (subscriptTail _ _ (Value.ref _) (Value.int _ _)) _ _ _); k_dflt (refine' Mine.item_listI ?k1 ?k2 ?k3 ?k4 ?k5 ?_ (by with_unfolding_all rfl); (case k1 => exact News.isList (by k_asm) (by k_mem)); (case k2 => assumption); (case k3 => omega); (case k4 => omega); (case k5 => omega)); intro t')
  k_with "subscriptTail" => (k_here; (with_reducible show wpAny _ _ (subscriptTail _ _ (Value.ref _) (Value.int _ _)) _ _ _); k_dflt (refine' Mine.item_listS ?k1 ?k2 ?k3 ?k4 ?k5 ?_ (by with_unfolding_all rfl); (case k1 => exact News.isList (by k_asm) (by k_mem)); (case k2 => assumption); (case k3 => omega); (case k4 => omega); (case k5 => omega)); intro y' t' hy')
  w_top off
  unfold Pur
  k_fill
  intro dp un gd cn cs a ccd cl outer A₀ base h₀ L m s Q E B F X T hk hdp hun hp hret
  refine wpAny_call ?_
  k_dflt (refine' Mine.code_pure (K := Mine.hd.heap_39 w.params) (binds := [(Str.ofString "counts", .ref c), (Str.ofString "symbols", .ref y)]) ?k1 ?k2 ?k3 ?k5 ?kA ?kF ?kK ?k6 ?k7 ?k8 ?k9 ?kB ?_ ?c2 ?c3 ?c4 ?c5)
  (case kA => exact rfl); (case kF => exact rfl); (case kK => assumption); (case k1 => k_asm); (case k2 => k_asm); (case k3 => k_asm); (case k5 => k_asm); (case k6 => k_is); (case k7 => k_is); (case k8 => ktr_room); (case k9 => exact BindsTo.of_eq rfl); (case c5 => decide); (case kB => exact locs rfl); (case c2 => exact rfl); (case c3 => exact rfl); (case c4 => exact rfl); k_whole; intro L' h' F' N' B' X' T'; (try dsimp only); (try k_fold)
  clear B F X T
  obtain ⟨hc, hy⟩ := hp
  have hlc := ic.length
  have hly := iy.length
  have hg : ∀ M ∈ ns, ¬ M < 0 := fun M h => by have := hpos M h; lia
  k_steps
  all_goals try (exfalso; lia)
  · exact absurd (by assumption) (hg _ (by assumption))
  rename Fr _ _ _ _ => F2
  rename News _ _ _ _ => N2
  rename Obj.SetObjOf (PySem.intKind _ _) _ _ _ => z2
  unfold Lock
  refine lp_tup (σ := Obj) (fun so => [(_, so)]) (fun _ => []) [] (fun i so => so.SetObjOf (intKind PySem.Challenge.rw_ok0131_01.row.prog w) (fun k => decide (k ∈ ms.take i)) i) _ rfl hy F2 N2 (fun _ h => h) (fun _ h => nomatch h) (by simpa using z2) ?_ ?_
  · intro so i v u h4 tk4 own hv hoff hP F4 N4
    clear F2 N2 z2
    obtain ⟨k, t, rfl, hk⟩ := IntsAre.at iy i v hv
    have hi : i < ms.length := (List.getElem?_eq_some_iff.mp hk).1
    have hnot : decide (k ∈ ms.take i) = false := take_not hk hnd
    have hne := off_ne hoff List.mem_cons_self
    try dsimp only at hP hoff F4 N4
    simp only [List.cons_append, List.nil_append] at N4
    k_steps
    rename_i h5 o5 F5 N5 z5
    rw [take_mem hk, if_neg (by rw [hnot]; decide)] at z5
    exact lp_end o5 F5 N5 (by kcf_all) (by kcf_all) hoff (fun _ h => nomatch h) (fun z h1 h2 h3 => lp_off h1 h2 h3) z5
  · intro so u h4 tk4 hP F4 N4
    clear F2 N2 z2
    k_steps
    rename Fr _ _ _ _ => F5
    exact hret _ [] _ _ F5.keep (fun p hp => nomatch hp) ⟨rfl, rfl⟩
end Mine

end
section
namespace Mine
noncomputable def cd (ns : List Int) : Nat → Int
  | 0 => 0
  | i + 1 => (cd ns i + ns.getD i 0) * 2
noncomputable def pl (ns : List Int) : Nat → Int
  | 0 => 0
  | i + 1 => pl ns i + ns.getD i 0
structure RSt where
  vs : List Value
  n : Nat
  tl : List (Addr × Obj)
  code : Int
  tc : Tok
  place : Int
  tp : Tok
noncomputable def RowAt (ns : List Int) (tl : List (Addr × Obj)) (j : Nat) (v : Value) : Prop := ∃ a n t1 t2 t3, v = .ref a ∧ (a, ({ cls := .type "tuple", data := .seq (List.toArray [.int (cd ns j) t1, .int (ns.getD j 0) t2, .int (pl ns j) t3]) n } : Obj)) ∈ tl
noncomputable def RowsOut (ns : List Int) (r : Value) (tl : List (Addr × Obj)) : Prop := ∃ (a : Addr) (vs : List Value) (n : Nat) (tl' : List (Addr × Obj)), r = .ref a ∧ tl = (a, listOf vs.toArray n) :: tl' ∧ vs.length = 16 ∧ ∀ (j : Nat) (v : Value), vs[j]? = some v → RowAt ns tl' j v
set_option maxHeartbeats 8000000 in
theorem code_rows_C (w : World) (mean : ExcName → Option Value) (mg mb : Str → Option Value) (c : Addr) (cs : List Value) (ns : List Int) (ic : IntsAre cs ns) (hn : ns.length = 16) (hb : ∀ i, i < 16 → 0 ≤ ns.getD i 0 ∧ ns.getD i 0 ≤ 256 ∧ 0 ≤ cd ns i ∧ cd ns i ≤ 131072 ∧ 0 ≤ pl ns i ∧ pl ns i ≤ 256 ∧ ¬ (cd ns i + ns.getD i 0 ≥ 2 ^ (i + 1) ∧ ns.getD i 0 > 0)) :
    Pur w mean mg mb 95 [.ref c] 2 (fun h => IsTup h c cs.toArray) (RowsOut ns) := by
  k_with_none
  k_with "all9" => with_reducible assumption
  k_with "units9" => (have hcL9 := cLine_is; (simp only [units_under_make, units_in1, units_deeper]); (try dsimp only [ktrTop]); omega)
  k_with "pu_rest" => ((case kA => exact rfl); (case kF => exact rfl); (case kK => assumption); (case k1 => k_asm); (case k2 => k_asm); (case k3 => k_asm); (case k5 => k_asm); (case k6 => k_is); (case k7 => k_is); (case k8 => ktr_room); (case k9 => exact BindsTo.of_eq rfl); (case c5 => decide); (case kB => exact locs rfl); (case c2 => exact rfl); (case c3 => exact rfl); (case c4 => exact rfl); k_whole; intro L' h' F' N' B' X' T'; (try dsimp only); (try k_fold))
  k_with "eval ListComp" => (k_here; (with_reducible show wpAny _ _ (eval (Expr.ListComp _ [⟨Expr.Name _ _, _, [], _⟩] _ _) _) _ _ _); k_dflt (refine' Mine.comp_U ?k0 ?k1 ?k2 ?k3 ?k4 ?k5 ?_ (by intro _; rfl); (case k0 => k_asm); (case k1 => with_unfolding_all rfl); (case k2 => decide); (case k3 => rfl); (case k4 => decide); (case k5 => rfl)))
  k_with "eval ListComp" => (k_here; (with_reducible show wpAny _ _ (eval (Expr.ListComp _ [⟨Expr.Name _ _, _, [_], _⟩] _ _) _) _ _ _); k_dflt (refine' Mine.comp_T ?k0 ?k1 ?k2 ?k3 ?k4 ?k5 ?_ (by intro _; rfl); (case k0 => k_asm); (case k1 => with_unfolding_all rfl); (case k2 => decide); (case k3 => rfl); (case k4 => decide); (case k5 => rfl)))
  k_with "call builtin:str.split" => (k_here; (with_reducible show wpAny _ _ (call (Value.builtin "str.split") [Value.str _ _, Value.str _ _]) _ _ _); k_dflt (refine' KSpl.split1 ?k1 ?k2 ?k3 ?_ ?k4; (case k1 => k_asm); (case k2 => k_asm); (case k3 => decide); (case k4 => (rw [PySem.sizeLine_eq]; omega))); intro D' l' h' k' e' a' F' N' l1; (try k_lt l1))
  k_with "call type:int" => (k_here; (with_reducible show wpAny _ _ (call (Value.type "int") [Value.str _ _, Value.int _ _]) _ _ _); k_dflt (first | (refine' Mine.call_intB (b := 16) (.inr rfl) ?k1 ?_; (case k1 => assumption)) | (refine' Mine.call_intB (b := 2) (.inl rfl) ?k1 ?_; (case k1 => assumption))))
  k_with "exec For Name Call cons nil" => (k_here; (rename Fr _ _ _ _ => lF'); (with_unfolding_all refine' Mine.For_lock lF' ?k1 ?k2 ?_ (by intro _; rfl) (by passes_own); (case k1 => exact rfl); (case k2 => exact rfl); k_whole))
  k_with "exec For Name Name cons nil" => (k_here; (rename Fr _ _ _ _ => lF'); (with_unfolding_all refine' Mine.For_lock lF' ?k1 ?k2 ?_ (by intro _; rfl) (by passes_own); (case k1 => exact rfl); (case k2 => exact rfl); k_whole))
  k_with "pu_call" => ((case B9 => k_asm); (case F9 => k_asm); (case X9 => k_asm); (case N9 => k_asm); (case T9 => k_asm); (case k9 => first | exact rfl | assumption); (case d9 => ktr_room); (case u9 => ktr_units))
  k_with "call type:tuple" => (k_here; (with_reducible show wpAny _ _ (call (Value.type "tuple") [Value.ref _]) _ _ _); k_dflt (refine' Mine.tuple_rangeK ?k0 ?k1 ?k2 ?k3 ?k4 ?k5 ?k6 ?_; (case k0 => rfl); (case k1 => k_asm); (case k2 => k_asm); (case k3 => assumption); (case k4 => decide); (case k5 => rfl); (case k6 => decide)); intro D' vs' h' tk' F' N' l1 i9; (try k_lt l1); (try k_sweep))
  k_with "call builtin:len" => (k_here; (with_reducible show wpAny _ _ (call (Value.builtin "len") [Value.ref _]) _ _ _); k_dflt (refine' Mine.len_tupK ?k1 ?k2 ?k3 ?_; (case k1 => first | exact Fr.tup (by k_asm) (by assumption) | exact News.isTup (by k_asm) (by k_mem)); (case k2 => assumption); (case k3 => omega)))
  k_with "call builtin:sum" => (k_here; (with_reducible show wpAny _ _ (call (Value.builtin "sum") [Value.ref _]) _ _ _); k_dflt (refine' Mine.sum_tupK ?k0 ?k1 ?k2 ?k3 ?k4 ?_; (case k0 => rfl); (case k1 => k_asm); (case k2 => k_asm); (case k3 => first | exact Fr.tup (by k_asm) (by assumption) | exact News.isTup (by k_asm) (by k_mem)); (case k4 => assumption)); intro h' tk' t' F' N'; (try k_sweep))
  k_with "call builtin:min" => (k_here; (with_reducible show wpAny _ _ (call (Value.builtin "min") [Value.ref _]) _ _ _); k_dflt (refine' Mine.min_tupK ?k0 ?k1 ?k2 ?k3 ?k4 ?k5 ?_; (case k0 => rfl); (case k1 => k_asm); (case k2 => k_asm); (case k3 => first | exact Fr.tup (by k_asm) (by assumption) | exact News.isTup (by k_asm) (by k_mem)); (case k4 => assumption); (case k5 => omega)); intro h' M' t' tk' F' N' a' b'; (try k_sweep))
  k_with "subscriptTail" => (k_here; (with_reducible show wpAny _ _ (subscriptTail _ _ (Value.ref _) (Value.int _ _)) _ _ _); k_dflt (refine' Mine.item_tupI ?k1 ?k2 ?k3 ?k4 ?k5 ?_ (by with_unfolding_all rfl); (case k1 => first | exact Fr.tup (by k_asm) (by assumption) | exact News.isTup (by k_asm) (by k_mem)); (case k2 => assumption); (case k3 => omega); (case k4 => omega); (case k5 => omega)); intro t')
  k_with "subscriptTail" => (k_here; (with_reducible show wpAny _ _ (subscriptTail _ _ (Value.ref _) (Value.int _ _)) _ _ _); k_dflt (refine' Mine.item_listI ?k1 ?k2 ?k3 ?k4 ?k5 ?_ (by with_unfolding_all rfl); (case k1 => exact News.isList (by k_asm) (by k_mem)); (case k2 => assumption); (case k3 => omega); (case k4 => omega); (case k5 => omega)); intro t')
  k_with "subscriptTail" => (k_here; (with_reducible show wpAny _ _ (subscriptTail _ _ (Value.ref _) (Value.int _ _)) _ _ _); k_dflt (refine' Mine.item_listS ?k1 ?k2 ?k3 ?k4 ?k5 ?_ (by with_unfolding_all rfl); (case k1 => exact News.isList (by k_asm) (by k_mem)); (case k2 => assumption); (case k3 => omega); (case k4 => omega); (case k5 => omega)); intro y' t' hy')
  k_with "exec If" => (k_here; (with_reducible show wpAny _ _ (exec (Stmt.If (Expr.BoolOp _ _ _) _ [] _) _) _ _ _); (fail_if_success (have f9 : Mine.Flag := (by assumption))); refine Mine.lock_in ?_)
  w_top off
  unfold Pur
  k_fill
  intro dp un gd cn cs a ccd cl outer A₀ base h₀ L m s Q E B F X T hk hdp hun hp hret
  refine wpAny_call ?_
  k_dflt (refine' Mine.code_pure (K := Mine.hd.heap_39 w.params) (binds := [(Str.ofString "counts", .ref c)]) ?k1 ?k2 ?k3 ?k5 ?kA ?kF ?kK ?k6 ?k7 ?k8 ?k9 ?kB ?_ ?c2 ?c3 ?c4 ?c5)
  (case kA => exact rfl); (case kF => exact rfl); (case kK => assumption); (case k1 => k_asm); (case k2 => k_asm); (case k3 => k_asm); (case k5 => k_asm); (case k6 => k_is); (case k7 => k_is); (case k8 => ktr_room); (case k9 => exact BindsTo.of_eq rfl); (case c5 => decide); (case kB => exact locs rfl); (case c2 => exact rfl); (case c3 => exact rfl); (case c4 => exact rfl); k_whole; intro L' h' F' N' B' X' T'; (try dsimp only); (try k_fold)
  clear B F X T
  have hlc := ic.length
  k_steps
  rename_i D _ _ _ tk1 D0 _ l1 _ _ h1 F1 N1 h2 tk2 t2 u2 v2 R2 F2 N2 hk2
  clear F1 N1
  unfold Lock
  refine lp_range (σ := RSt) (n := 16) (fun c => (D, listOf c.vs.toArray c.n) :: c.tl) (fun c => [(Str.ofString "code", .int c.code c.tc), (Str.ofString "place", .int c.place c.tp)]) [Str.ofString "many"]
    (fun i c => c.code = cd ns i ∧ c.place = pl ns i ∧ c.vs.length = i ∧ (∀ p ∈ c.tl, p.1 ≠ D) ∧ ∀ j v, c.vs[j]? = some v → RowAt ns c.tl j v) ⟨[], 0, [], 0, tk1, 0, tk1 + 1⟩ rfl R2 (by rw [hn]; decide) (by rw [hn]; rfl) F2 N2 (by kcf_all) ?_ ⟨rfl, rfl, rfl, (fun _ h => nomatch h), fun j v h => by simp at h⟩ ?_ ?_
  · intro p hp
    simp only [List.mem_cons, List.not_mem_nil, or_false] at hp
    rcases hp with rfl | rfl <;> rfl
  · rintro ⟨vs, n, tl, code, tc, place, tp⟩ i t u h4 tk4 own hi hoff ⟨e1, e2, e3, e4, e5⟩ F4 N4
    clear F2 N2
    dsimp only at e1 e2 e3 e4 e5 hoff F4 N4
    subst e1 e2
    have hbi := hb i hi
    have b1 := hbi.1
    have b2 := hbi.2.1
    have b3 := hbi.2.2.1
    have b4 := hbi.2.2.2.1
    have b5 := hbi.2.2.2.2.1
    have b6 := hbi.2.2.2.2.2.1
    have b7 := hbi.2.2.2.2.2.2
    clear hbi
    simp only [List.cons_append] at N4
    have hne := all_app e4 (off_ne hoff List.mem_cons_self)
    have x1 : (1 + (i : Int) * 1 - 1).toNat = i := by lia
    have x2 : (1 + (i : Int) * 1).toNat = i + 1 := by lia
    k_steps
    unfold Lock
    refine if_quiet (by k_asm) (by k_asm) ?_ ?_
    · have fl : Mine.Flag := trivial
      show wpAny _ _ _ _ _ _
      k_steps
      · rename_i a1 a0
        simp only [x1, x2] at a1 a0
        exact absurd ⟨a1, a0⟩ b7
      all_goals (
        rename Fr _ _ _ _ => F5
        rename News _ _ _ _ => N5
        exact ⟨rfl, _, _, rfl, F5, N5⟩)
    intro h6 tk6 F6 N6
    show wpAny _ _ _ _ _ _
    k_steps
    rename Fr _ _ _ _ => F5
    rename News _ _ _ _ => N5
    rename _ < _ ∧ AllLt _ (tl ++ own) => l5
    simp only [x1] at F5 N5
    simp only [List.push_toArray] at N5
    refine lp_end2 ⟨vs ++ [.ref _], n + 1, (_, _) :: tl, _, _, _, _⟩ F5 N5 (all_two rfl rfl) (by kcf_all) (by kcf_all) ?_ ?_ ⟨rfl, rfl, ?_, ?_, ?_⟩
    · intro p hp b hb
      rcases List.mem_cons.mp hb with rfl | hb
      · exact hoff p hp _ List.mem_cons_self
      · rcases List.mem_cons.mp hb with rfl | hb
        · exact Nat.ne_of_lt (kst_ltOf l5.2 p (List.mem_append.mpr (.inr hp)))
        · exact hoff p hp _ (List.mem_cons_of_mem _ hb)
    · intro z h1 h2 h3
      have hc : z ≠ Str.ofString "code" := h2 _ List.mem_cons_self
      have hp : z ≠ Str.ofString "place" := h2 _ (List.mem_cons_of_mem _ List.mem_cons_self)
      have hm : z ≠ Str.ofString "many" := lp_nope h3 (by decide)
      simp only [kstB, hc, hp, hm, h1, h3, if_false, Bool.false_eq_true]
    · simp only [List.length_append, e3, List.length_singleton]
    · intro p hp
      rcases List.mem_cons.mp hp with rfl | hp
      · exact Nat.ne_of_gt l5.1
      · exact e4 p hp
    · intro j v hv
      by_cases hj : j < vs.length
      · obtain ⟨a', n', t1, t2, t3, q1, q2⟩ := e5 j v (by rw [List.getElem?_append_left hj] at hv; exact hv)
        exact ⟨a', n', t1, t2, t3, q1, List.mem_cons_of_mem _ q2⟩
      · have hj' : j = vs.length := by
          have := (List.getElem?_eq_some_iff.mp hv).1
          simp only [List.length_append, List.length_singleton] at this
          lia
        subst hj'
        rw [List.getElem?_append_right (Nat.le_refl _), Nat.sub_self] at hv
        cases hv
        rw [e3]
        exact ⟨_, _, _, _, _, rfl, List.mem_cons_self⟩
  · rintro ⟨vs, n, tl, code, tc, place, tp⟩ u h4 tk4 ⟨e1, e2, e3, e4, e5⟩ F4 N4
    clear F2 N2
    dsimp only at e1 e2 e3 e4 e5 F4 N4
    k_steps
    rename Fr _ _ _ _ => F5
    exact hret _ ((D, _) :: tl) _ _ F5.keep (fun p hp => ⟨(N4 p hp).1, (N4 p hp).2.2⟩) ⟨D, vs, n, tl, rfl, rfl, e3, e5⟩
end Mine

end
section
open PySem PySem.W PyProof.Rows PySem.Spec PySem.Calls
namespace Mine
/-- (key, code, size) of the first k symbols of row i -/
noncomputable def rowDone (ns ms : List Int) (i : Nat) : Nat → List (Int × Int × Int)
  | 0 => []
  | k + 1 => rowDone ns ms i k ++ [(ms.getD ((pl ns i).toNat + k) 0, cd ns i + (k : Int), (i : Int) + 1)]
noncomputable def doneTo (ns ms : List Int) : Nat → List (Int × Int × Int)
  | 0 => []
  | i + 1 => doneTo ns ms i ++ rowDone ns ms i (ns.getD i 0).toNat
theorem row_keys {ns ms : List Int} {i : Nat} : ∀ {k : Nat}, (pl ns i).toNat + k ≤ ms.length → (rowDone ns ms i k).map (·.1) = (ms.drop (pl ns i).toNat).take k
  | 0, _ => by simp [rowDone]
  | k + 1, h => by
    have ih := row_keys (ns := ns) (ms := ms) (i := i) (k := k) (by omega)
    have hg : (ms.drop (pl ns i).toNat)[k]? = some (ms.getD ((pl ns i).toNat + k) 0) := by
      rw [List.getElem?_drop, List.getD_eq_getElem?_getD, List.getElem?_eq_getElem (by omega)]
      rfl
    simp only [rowDone, List.map_append, ih, List.map_cons, List.map_nil, List.take_add_one, hg, Option.toList_some]
theorem done_keys {ns ms : List Int} (h : ∀ i, i < 16 → 0 ≤ ns.getD i 0 ∧ 0 ≤ pl ns i ∧ pl ns i + ns.getD i 0 ≤ (ms.length : Int)) : ∀ {i : Nat}, i ≤ 16 → (doneTo ns ms i).map (·.1) = ms.take (pl ns i).toNat
  | 0, _ => by simp [doneTo, pl]
  | i + 1, hi => by
    obtain ⟨a, b, c⟩ := h i (by omega)
    have ih := done_keys h (i := i) (by lia)
    have e : (pl ns (i + 1)).toNat = (pl ns i).toNat + (ns.getD i 0).toNat := by
      show (pl ns i + ns.getD i 0).toNat = _
      lia
    simp only [doneTo, List.map_append, ih]
    rw [row_keys (by omega), e, List.take_add]
theorem part_keys {ns ms : List Int} (h : ∀ i, i < 16 → 0 ≤ ns.getD i 0 ∧ 0 ≤ pl ns i ∧ pl ns i + ns.getD i 0 ≤ (ms.length : Int)) {i k : Nat} (hi : i < 16) (hk : k ≤ (ns.getD i 0).toNat) :
    (doneTo ns ms i ++ rowDone ns ms i k).map (·.1) = ms.take ((pl ns i).toNat + k) := by
  obtain ⟨a, b, c⟩ := h i hi
  rw [List.map_append, done_keys h (Nat.le_of_lt hi), row_keys (by omega), List.take_add]

/-- the dict bears key ↦ (code, size) -/
noncomputable def CodeAt (tl : List (Addr × Obj)) (kvs : List (Int × Value)) (q : Int × Int × Int) : Prop :=
  ∃ a n t1 t2, valueAt kvs q.1 = some (.ref a) ∧ (a, ({ cls := .type "tuple", data := .seq (List.toArray [.int q.2.1 t1, .int q.2.2 t2]) n } : Obj)) ∈ tl
theorem valueAt_none {kvs : List (Int × Value)} {k : Int} (h : k ∉ kvs.map (·.1)) : valueAt kvs k = none := by
  unfold valueAt
  rw [List.find?_eq_none.mpr (fun x hx => by simp only [decide_eq_true_eq]; exact fun e => h (List.mem_map.mpr ⟨x, hx, e⟩))]
  rfl
theorem CodeAt.more {tl tl' : List (Addr × Obj)} {kvs : List (Int × Value)} {q : Int × Int × Int} (h : CodeAt tl kvs q) (hs : ∀ p ∈ tl, p ∈ tl') (k : Int) (v : Value) : CodeAt tl' (kvs ++ [(k, v)]) q := by
  obtain ⟨a, n, t1, t2, e, hm⟩ := h
  refine ⟨a, n, t1, t2, ?_, hs _ hm⟩
  unfold valueAt at e ⊢
  rw [List.find?_append]
  cases hf : kvs.find? (fun kv => decide (kv.1 = q.1)) with
  | none => rw [hf] at e; cases e
  | some p => rw [hf] at e; exact e
theorem CodeAt.new {tl : List (Addr × Obj)} {kvs : List (Int × Value)} {k code size : Int} {a : Addr} {n : Nat} {t1 t2 : Tok} (hk : k ∉ kvs.map (·.1)) (hm : (a, ({ cls := .type "tuple", data := .seq (List.toArray [.int code t1, .int size t2]) n } : Obj)) ∈ tl) :
    CodeAt tl (kvs ++ [(k, .ref a)]) (k, code, size) := by
  refine ⟨a, n, t1, t2, ?_, hm⟩
  unfold valueAt
  rw [List.find?_append, List.find?_eq_none.mpr (fun x hx => by simp only [decide_eq_true_eq]; exact fun e => hk (List.mem_map.mpr ⟨x, hx, e⟩))]
  simp
section
variable {prog : Program} {w : World} {A : Around} {E : Value → Shared → Prop} {s : Shared}
theorem item_row {value slice : PySem.Expr} {t : Addr} {vr : List Value} {ns : List Int} {tr : List (Addr × Obj)} {k : Int} {u : Tok} {Q : Value → Shared → Prop} (ht : s.heap.IsList t vr.toArray) (hl : vr.length = 16) (hr : ∀ (j : Nat) (v : Value), vr[j]? = some v → RowAt ns tr j v) (h0 : 0 ≤ k) (h1 : k < 16)
    (h : ∀ a n t1 t2 t3, (a, ({ cls := .type "tuple", data := .seq (List.toArray [.int (cd ns k.toNat) t1, .int (ns.getD k.toNat 0) t2, .int (pl ns k.toNat) t3]) n } : Obj)) ∈ tr → Q (.ref a) s)
    (hs : subscripted slice false (.ref t) (.int k u) = operate [.ref t, .int k u] (getItem (.ref t) (.int k u))) :
    wpAny (model prog w) A (subscriptTail value slice (.ref t) (.int k u)) Q E s := by
  refine item_listV ht h0 (by omega) (by lia) (fun v hv => ?_) hs
  obtain ⟨a, n, t1, t2, t3, rfl, hm⟩ := hr _ v hv
  exact h a n t1 t2 t3 hm
end
end Mine

end
section
namespace Mine
noncomputable def TabOut (w : World) (c y : Addr) (qs : List (Int × Int × Int)) (r : Value) (tl : List (Addr × Obj)) : Prop :=
  ∃ (x dx dd : Addr) (t1 t2 t3 t4 : Tok) (rr : Addr) (o : Obj) (kvs : List (Int × Value)) (tl' : List (Addr × Obj)), r = .ref x ∧
    tl = (x, instObj 133 dx) :: (dx, dictOf [{ hash := PyData.keyHash w.params (Str.ofString "counts"), key := .str (Str.ofString "counts") t1, val := .ref c },
      { hash := PyData.keyHash w.params (Str.ofString "symbols"), key := .str (Str.ofString "symbols") t2, val := .ref y },
      { hash := PyData.keyHash w.params (Str.ofString "rows"), key := .str (Str.ofString "rows") t3, val := .ref rr },
      { hash := PyData.keyHash w.params (Str.ofString "codes"), key := .str (Str.ofString "codes") t4, val := .ref dd }] 4) :: (dd, o) :: tl' ∧
    (dd == sysModules) = false ∧ o.IsDictOf (intKind PySem.Challenge.rw_ok0131_01.row.prog w) kvs ∧ ∀ q ∈ qs, CodeAt tl' kvs q
theorem fin_facts {s₀ g h : Heap} {L : Addr} {a b c d : Addr × Obj} {u v : List (Addr × Obj)} (N : News g L h (a :: b :: c :: d :: (u ++ v))) (sg : s₀.StaysIn g) : ∀ p ∈ c :: d :: a :: v, h.get? p.1 = some p.2 ∧ s₀.get? p.1 = none := by
  intro p hp
  have hm : p ∈ a :: b :: c :: d :: (u ++ v) := by
    simp only [List.mem_cons, List.mem_append] at hp ⊢
    rcases hp with h | h | h | h
    all_goals simp only [h, true_or, or_true]
  refine ⟨(N _ hm).1, ?_⟩
  cases hq : s₀.get? p.1 with
  | none => rfl
  | some o => exact absurd (sg _ _ hq) (by rw [N.fresh hm]; exact nofun)
structure HSt where
  o : Obj
  kvs : List (Int × Value)
  tl : List (Addr × Obj)
set_option maxHeartbeats 8000000 in
theorem huff_C (w : World) (mean : ExcName → Option Value) (mg mb : Str → Option Value) (c y : Addr) (cs ys : List Value) (ns ms : List Int) (ic : IntsAre cs ns) (iy : IntsAre ys ms) (hn : ns.length = 16) (hpos : ∀ n ∈ ns, 0 ≤ n) (hsum : ns.sum = (ms.length : Int)) (hm : ms.length ≤ 256) (hnd : ms.Nodup)
    (hb : ∀ i, i < 16 → 0 ≤ ns.getD i 0 ∧ ns.getD i 0 ≤ 256 ∧ 0 ≤ cd ns i ∧ cd ns i ≤ 131072 ∧ 0 ≤ pl ns i ∧ pl ns i ≤ 256 ∧ ¬ (cd ns i + ns.getD i 0 ≥ 2 ^ (i + 1) ∧ ns.getD i 0 > 0)) (hpl : ∀ i, i < 16 → pl ns i + ns.getD i 0 ≤ (ms.length : Int)) :
    Pur w mean mg mb 133 [.ref c, .ref y] 5 (fun h => IsTup h c cs.toArray ∧ IsTup h y ys.toArray) (TabOut w c y (doneTo ns ms 16)) := by
  k_with_none
  k_with "all9" => with_reducible assumption
  k_with "units9" => (have hcL9 := cLine_is; (simp only [units_under_make, units_in1, units_deeper]); (try dsimp only [ktrTop]); omega)
  k_with "pu_rest" => ((case kA => exact rfl); (case kF => exact rfl); (case kK => assumption); (case k1 => k_asm); (case k2 => k_asm); (case k3 => k_asm); (case k5 => k_asm); (case k6 => k_is); (case k7 => k_is); (case k8 => ktr_room); (case k9 => exact BindsTo.of_eq rfl); (case c5 => decide); (case kB => exact locs rfl); (case c2 => exact rfl); (case c3 => exact rfl); (case c4 => exact rfl); k_whole; intro L' h' F' N' B' X' T'; (try dsimp only); (try k_fold))
  k_with "eval ListComp" => (k_here; (with_reducible show wpAny _ _ (eval (Expr.ListComp _ [⟨Expr.Name _ _, _, [], _⟩] _ _) _) _ _ _); k_dflt (refine' Mine.comp_U ?k0 ?k1 ?k2 ?k3 ?k4 ?k5 ?_ (by intro _; rfl); (case k0 => k_asm); (case k1 => with_unfolding_all rfl); (case k2 => decide); (case k3 => rfl); (case k4 => decide); (case k5 => rfl)))
  k_with "eval ListComp" => (k_here; (with_reducible show wpAny _ _ (eval (Expr.ListComp _ [⟨Expr.Name _ _, _, [_], _⟩] _ _) _) _ _ _); k_dflt (refine' Mine.comp_T ?k0 ?k1 ?k2 ?k3 ?k4 ?k5 ?_ (by intro _; rfl); (case k0 => k_asm); (case k1 => with_unfolding_all rfl); (case k2 => decide); (case k3 => rfl); (case k4 => decide); (case k5 => rfl)))
  k_with "call builtin:str.split" => (k_here; (with_reducible show wpAny _ _ (call (Value.builtin "str.split") [Value.str _ _, Value.str _ _]) _ _ _); k_dflt (refine' KSpl.split1 ?k1 ?k2 ?k3 ?_ ?k4; (case k1 => k_asm); (case k2 => k_asm); (case k3 => decide); (case k4 => (rw [PySem.sizeLine_eq]; omega))); intro D' l' h' k' e' a' F' N' l1; (try k_lt l1))
  k_with "call type:int" => (k_here; (with_reducible show wpAny _ _ (call (Value.type "int") [Value.str _ _, Value.int _ _]) _ _ _); k_dflt (first | (refine' Mine.call_intB (b := 16) (.inr rfl) ?k1 ?_; (case k1 => assumption)) | (refine' Mine.call_intB (b := 2) (.inl rfl) ?k1 ?_; (case k1 => assumption))))
  k_with "exec For Name Call cons nil" => (k_here; (rename Fr _ _ _ _ => lF'); (with_unfolding_all refine' Mine.For_lock lF' ?k1 ?k2 ?_ (by intro _; rfl) (by passes_own); (case k1 => exact rfl); (case k2 => exact rfl); k_whole))
  k_with "exec For Name Name cons nil" => (k_here; (rename Fr _ _ _ _ => lF'); (with_unfolding_all refine' Mine.For_lock lF' ?k1 ?k2 ?_ (by intro _; rfl) (by passes_own); (case k1 => exact rfl); (case k2 => exact rfl); k_whole))
  k_with "pu_call" => ((case B9 => k_asm); (case F9 => k_asm); (case X9 => k_asm); (case N9 => k_asm); (case T9 => k_asm); (case k9 => first | exact rfl | assumption); (case d9 => ktr_room); (case u9 => ktr_units))
  k_with "call type:tuple" => (k_here; (with_reducible show wpAny _ _ (call (Value.type "tuple") [Value.ref _]) _ _ _); k_dflt (refine' Mine.tuple_rangeK ?k0 ?k1 ?k2 ?k3 ?k4 ?k5 ?k6 ?_; (case k0 => rfl); (case k1 => k_asm); (case k2 => k_asm); (case k3 => assumption); (case k4 => decide); (case k5 => rfl); (case k6 => decide)); intro D' vs' h' tk' F' N' l1 i9; (try k_lt l1); (try k_sweep))
  k_with "call builtin:len" => (k_here; (with_reducible show wpAny _ _ (call (Value.builtin "len") [Value.ref _]) _ _ _); k_dflt (refine' Mine.len_tupK ?k1 ?k2 ?k3 ?_; (case k1 => first | exact Fr.tup (by k_asm) (by assumption) | exact News.isTup (by k_asm) (by k_mem)); (case k2 => assumption); (case k3 => omega)))
  k_with "call builtin:sum" => (k_here; (with_reducible show wpAny _ _ (call (Value.builtin "sum") [Value.ref _]) _ _ _); k_dflt (refine' Mine.sum_tupK ?k0 ?k1 ?k2 ?k3 ?k4 ?_; (case k0 => rfl); (case k1 => k_asm); (case k2 => k_asm); (case k3 => first | exact Fr.tup (by k_asm) (by assumption) | exact News.isTup (by k_asm) (by k_mem)); (case k4 => assumption)); intro h' tk' t' F' N'; (try k_sweep))
  k_with "call builtin:min" => (k_here; (with_reducible show wpAny _ _ (call (Value.builtin "min") [Value.ref _]) _ _ _); k_dflt (refine' Mine.min_tupK ?k0 ?k1 ?k2 ?k3 ?k4 ?k5 ?_; (case k0 => rfl); (case k1 => k_asm); (case k2 => k_asm); (case k3 => first | exact Fr.tup (by k_asm) (by assumption) | exact News.isTup (by k_asm) (by k_mem)); (case k4 => assumption); (case k5 => omega)); intro h' M' t' tk' F' N' a' b'; (try k_sweep))
  k_with "subscriptTail" => (k_here; (with_reducible show wpAny _ _ (subscriptTail _ _ (Value.ref _) (Value.int _ _)) _ _ _); k_dflt (refine' Mine.item_tupI ?k1 ?k2 ?k3 ?k4 ?k5 ?_ (by with_unfolding_all rfl); (case k1 => first | exact Fr.tup (by k_asm) (by assumption) | exact News.isTup (by k_asm) (by k_mem)); (case k2 => assumption); (case k3 => omega); (case k4 => omega); (case k5 => omega)); intro t')
  k_with "subscriptTail" => (k_here; (with_reducible show wpAny _ _ (subscriptTail _ _ (Value.ref _) (Value.int _ _)) _ _ _); k_dflt (refine' Mine.item_listI ?k1 ?k2 ?k3 ?k4 ?k5 ?_ (by with_unfolding_all rfl); (case k1 => exact News.isList (by k_asm) (by k_mem)); (case k2 => assumption); (case k3 => omega); (case k4 => omega); (case k5 => omega)); intro t')
  k_with "subscriptTail" => (k_here; (with_reducible show wpAny _ _ (subscriptTail _ _ (Value.ref _) (Value.int _ _)) _ _ _); k_dflt (refine' Mine.item_listS ?k1 ?k2 ?k3 ?k4 ?k5 ?_ (by with_unfolding_all rfl); (case k1 => exact News.isList (by k_asm) (by k_mem)); (case k2 => assumption); (case k3 => omega); (case k4 => omega); (case k5 => omega)); intro y' t' hy')
  k_with "call ref" => (k_here; (with_reducible show wpAny _ _ (call (Value.ref 102) _) _ _ _); k_dflt (refine' Mine.pur_use ?C9 ?B9 ?F9 ?X9 ?N9 ?T9 ?k9 ?d9 ?u9 ?p9 ?_; (case C9 => assumption); (case p9 => exact ⟨Fr.tup (by k_asm) (by assumption), Fr.tup (by k_asm) (by assumption)⟩); walk_at "pu_call"); intro r' tl' h' tk' F' N' ne' ho'; obtain ⟨e9, t9⟩ := ho'; subst e9; subst t9; (simp only [List.nil_append] at N'); clear ne'; (try k_sweep))
  k_with "call ref" => (k_here; (with_reducible show wpAny _ _ (call (Value.ref 95) _) _ _ _); k_dflt (refine' Mine.pur_use ?C9 ?B9 ?F9 ?X9 ?N9 ?T9 ?k9 ?d9 ?u9 ?p9 ?_; (case C9 => assumption); (case p9 => exact Fr.tup (by k_asm) (by assumption)); walk_at "pu_call"); intro r' tl' h' tk' F2 N2 ne2 ho'; obtain ⟨rr, vr, nr, tr, e9, t9, hlr, hrows⟩ := ho'; subst e9; subst t9; (simp only [List.cons_append] at N2); (try k_sweep))
  k_with "subscriptTail" => (k_here; (with_reducible show wpAny _ _ (subscriptTail _ _ (Value.ref _) (Value.int _ _)) _ _ _); k_dflt (refine' Mine.item_row ?k1 ?k2 ?k3 ?k4 ?k5 ?_ (by with_unfolding_all rfl); (case k1 => exact News.isList (by k_asm) (by k_mem)); (case k2 => assumption); (case k3 => assumption); (case k4 => omega); (case k5 => omega)); intro a9 n9 t1 t2 t3 m9)
  k_with "setItem ref int" => (k_here; k_dflt (refine' kda_set (knd := PySem.intKind _ _) ?sF ?sN ?sU ?sd (intKind_is _ _ _ _) ?sz ?_; (case sF => k_asm); (case sN => k_asm); (case sU => k_updF); (case sd => assumption); (case sz => assumption)); intro h11 o11 F11 N11 hd11; (try dsimp only at N11))
  w_top off
  unfold Pur
  k_fill
  intro dp un gd cn cs' a ccd cl outer A₀ base h₀ L m s Q E B F X T hk hdp hun hp hret
  obtain ⟨hc, hy⟩ := hp
  refine wpAny_call ?_
  refine make_pure (K := Mine.hd.heap_39 w.params) (fI := 116) X ?q1 ?q2 ?q3 ?_
  case q1 => k_is
  case q2 => k_is
  case q3 => k_is
  intro x dx hh hs hx hd' ex ed hlt
  replace hlt := ltN hlt
  k_dflt (refine' Mine.code_own (K := Mine.hd.heap_39 w.params) (s0 := s.heap) (own := [(x, instObj 133 dx), (dx, dictOf [] 0)]) (binds := [(Str.ofString "self", .ref x), (Str.ofString "counts", .ref c), (Str.ofString "symbols", .ref y)]) B (F.grownK hs) (news_two F hx hd' ex ed) ?k4 X T ?kA ?kF ?kK ?k6 ?k7 ?k8 ?k9 ?kB ?_ ?c2 ?c3 ?c4 ?c5)
  (case k4 => exact own_off hs hx hd')
  (case kA => exact rfl); (case kF => exact rfl); (case kK => assumption); (case k6 => k_is); (case k7 => k_is); (case k8 => ktr_room); (case k9 => exact BindsTo.of_eq rfl); (case c5 => decide); (case kB => exact locs rfl); (case c2 => exact rfl); (case c3 => exact rfl); (case c4 => exact rfl)
  intro g L' h1 sg F' N' B' X' T'
  (try dsimp only)
  have CT := check_told_C w mean mg mb c y cs ys ns ms ic iy hn hpos hsum hm hnd
  have CR := code_rows_C w mean mg mb c cs ns ic hn hb
  have hc' := hc.keeps sg
  have hy' := hy.keeps sg
  clear B X T
  show wpAny _ _ _ _ _ _
  k_fold
  k_steps
  have N3 := News.perm (news' := (rr, listOf vr.toArray nr) :: (x, instObj 133 dx) :: (dx, _) :: tr) N2 (by kcf_all)
  have d1 := ne2 _ List.mem_cons_self _ List.mem_cons_self
  have d2 := ne2 _ List.mem_cons_self _ (List.mem_cons_of_mem _ List.mem_cons_self)
  have e1 : ∀ p ∈ tr, p.1 ≠ x := fun p hp => Ne.symm (ne2 _ (List.mem_cons_of_mem _ hp) _ List.mem_cons_self)
  have e2 : ∀ p ∈ tr, p.1 ≠ dx := fun p hp => Ne.symm (ne2 _ (List.mem_cons_of_mem _ hp) _ (List.mem_cons_of_mem _ List.mem_cons_self))
  replace d1 := neN d1
  replace d2 := neN d2
  clear N2 ne2
  k_steps
  rename_i hh3 _ dd _ o0 lo fs hs0 hi0 fi0 lD h5 F5 N5 h6 tk6 t6 u6 v6 R6 F6 N6 hk6
  clear F5 N5
  unfold Lock
  have hD : ∀ p ∈ tr, p.1 ≠ dd := fun p hp => Nat.ne_of_lt (kst_ltOf lD.2.2.2 p hp)
  have hpn : ∀ i, i < 16 → 0 ≤ ns.getD i 0 ∧ 0 ≤ pl ns i ∧ pl ns i + ns.getD i 0 ≤ (ms.length : Int) := fun i h => ⟨(hb i h).1, (hb i h).2.2.2.2.1, hpl i h⟩
  refine lp_range (σ := HSt) (n := 16) (fun c => (dd, c.o) :: (rr, listOf vr.toArray nr) :: (x, instObj 133 dx) :: (dx, _) :: (tr ++ c.tl)) (fun _ => []) [Str.ofString "first", Str.ofString "many", Str.ofString "place", Str.ofString "k"]
    (fun i c => c.o.IsDictOf (intKind PySem.Challenge.rw_ok0131_01.row.prog w) c.kvs ∧ (∀ p ∈ c.tl, p.1 ≠ dd) ∧ c.kvs.map (·.1) = ms.take (pl ns i).toNat ∧ ∀ q ∈ doneTo ns ms i, CodeAt c.tl c.kvs q) ⟨o0, [], []⟩ rfl R6 (by decide) (by rfl) F6 N6 (by rw [List.append_nil]; exact fun _ h => h) (fun _ h => nomatch h) ⟨hi0, (fun _ h => nomatch h), rfl, (fun _ h => nomatch h)⟩ ?_ ?_
  · intro cc i t u h7 tk7 own hi hoff hP F7 N7
    have p1 := hP.1
    have p2 := hP.2.1
    have p3 := hP.2.2.1
    have p4 := hP.2.2.2
    clear hP
    clear F6 N6
    try dsimp only at p1 p2 p3 p4 hoff F7 N7
    simp only [List.cons_append] at N7
    have hbi := hb i hi
    have b1 := hbi.1
    have b2 := hbi.2.1
    have b3 := hbi.2.2.1
    have b4 := hbi.2.2.2.1
    have b5 := hbi.2.2.2.2.1
    have b6 := hbi.2.2.2.2.2.1
    have b7 := hbi.2.2.2.2.2.2
    clear hbi
    have b8 := hpl i hi
    have hne := all_app (all_app hD p2) (off_ne hoff List.mem_cons_self)
    have x1 : (1 + (i : Int) * 1 - 1).toNat = i := by lia
    k_steps
    rename (_, _) ∈ tr => m9
    simp only [x1] at m9
    have m8 := News.isTup N7 (List.mem_cons_of_mem _ (List.mem_cons_of_mem _ (List.mem_cons_of_mem _ (List.mem_cons_of_mem _ (List.mem_append_left own (List.mem_append_left cc.tl m9))))))
    k_steps
    unfold Lock
    rename_i h8 F8 N8 h9 tk9 t9 u9 v9 R9 F9 N9 hk9
    clear F8 N8
    refine lp_range (σ := HSt) (n := (ns.getD i 0).toNat) (fun c => (dd, c.o) :: (rr, listOf vr.toArray nr) :: (x, instObj 133 dx) :: (dx, _) :: (tr ++ c.tl ++ own)) (fun _ => []) []
      (fun k c => c.o.IsDictOf (intKind PySem.Challenge.rw_ok0131_01.row.prog w) c.kvs ∧ (∀ p ∈ c.tl, p.1 ≠ dd) ∧ c.kvs.map (·.1) = ms.take ((pl ns i).toNat + k) ∧ (∀ q ∈ doneTo ns ms i ++ rowDone ns ms i k, CodeAt c.tl c.kvs q) ∧ OwnOff own (c.tl.map (·.1))) cc rfl R9 (small_one (by decide) (by decide) (by lia) (by omega)) (by rw [rangeSize_nat, Int.sub_zero]) F9 N9 (fun _ h => h) (fun _ h => nomatch h) ⟨p1, p2, by rw [p3, Nat.add_zero], by simpa [rowDone] using p4, fun p hp b hb => hoff p hp b (by simp only [List.map_cons, List.map_append, List.mem_cons, List.mem_append, hb, or_true])⟩ ?_ ?_
    · intro c' k t2 u2 h10 tk10 own' hk hoff' hR F7 N7
      have r1 := hR.1
      have r2 := hR.2.1
      have r3 := hR.2.2.1
      have r4 := hR.2.2.2.1
      have r5 := hR.2.2.2.2
      clear hR
      clear F9 N9
      try dsimp only at r1 r2 r3 r4 r5 hoff' F7 N7
      simp only [List.cons_append] at N7
      have hne' := all_app (all_app (all_app hD r2) (off_ne hoff List.mem_cons_self)) (off_ne hoff' List.mem_cons_self)
      have hz : c'.kvs.length ≤ sizeLine := by
        have := congrArg List.length r3
        rw [List.length_map, List.length_take] at this
        rw [sizeLine_eq]
        omega
      k_steps
      rename_i aD _ _ _ lD2
      have x2 : (pl ns i + (0 + (k : Int) * 1)).toNat = (pl ns i).toNat + k := by lia
      have x3 : cd ns i + (0 + (k : Int) * 1) = cd ns i + (k : Int) := by lia
      have x4 : 1 + (i : Int) * 1 = (i : Int) + 1 := by lia
      have hik : (pl ns i).toNat + k < ms.length := by lia
      have hnk : ms.getD ((pl ns i).toNat + k) 0 ∉ c'.kvs.map (·.1) := by
        rw [r3]
        exact of_decide_eq_false (take_not (by rw [List.getElem?_eq_getElem hik, List.getD_eq_getElem?_getD, List.getElem?_eq_getElem hik]; rfl) hnd)
      rw [x2, stored_absent (valueAt_none hnk)] at hd11
      simp only [x3, x4] at N11
      refine lp_end2 ⟨o11, c'.kvs ++ [(_, .ref aD)], (aD, _) :: c'.tl⟩ F11 N11 (fun _ h => nomatch h) (by kcf_all) (by kcf_all) ?_ ?_ ⟨hd11, ?_, ?_, ?_, ?_⟩
      · intro p hp b hb
        by_cases hbD : b = aD
        · subst hbD
          exact Nat.ne_of_lt (kst_ltOf lD2.2.2.2.2 p (List.mem_append_right _ hp))
        · refine hoff' p hp b ?_
          simp only [List.map_cons, List.map_append, List.mem_cons, List.mem_append, hbD, false_or] at hb ⊢
          exact hb
      · intro z h1 h2 h3
        exact lp_off h1 h2 h3
      · intro p hp
        rcases List.mem_cons.mp hp with rfl | hp
        · exact Nat.ne_of_gt lD2.1
        · exact r2 p hp
      · rw [List.map_append, r3, ← Nat.add_assoc, List.take_add_one, List.getElem?_eq_getElem hik, List.getD_eq_getElem?_getD, List.getElem?_eq_getElem hik]
        rfl
      · intro q hq
        have hq : q ∈ (doneTo ns ms i ++ rowDone ns ms i k) ++ [(ms.getD ((pl ns i).toNat + k) 0, cd ns i + (k : Int), (i : Int) + 1)] := by
          rw [List.append_assoc]
          exact hq
        rcases List.mem_append.mp hq with hq | hq
        · exact (r4 q hq).more (fun _ h => List.mem_cons_of_mem _ h) _ _
        · cases List.mem_singleton.mp hq
          exact CodeAt.new hnk List.mem_cons_self
      · intro p hp b hb
        rcases List.mem_cons.mp hb with rfl | hb
        · exact Nat.ne_of_lt (kst_ltOf lD2.2.2.2.2 p (List.mem_append_left _ (List.mem_append_right _ hp)))
        · exact r5 p hp b hb
    · intro c' u2 h10 tk10 hR F7 N7
      have r1 := hR.1
      have r2 := hR.2.1
      have r3 := hR.2.2.1
      have r4 := hR.2.2.2.1
      have r5 := hR.2.2.2.2
      clear hR
      clear F9 N9
      try dsimp only at r1 r2 r3 r4 r5 F7 N7
      k_steps
      refine lp_end2 c' F7 N7 (fun _ h => nomatch h) (by kcf_all) (by kcf_all) ?_ ?_ ⟨r1, r2, ?_, r4⟩
      · intro p hp b hb
        by_cases hb2 : b ∈ c'.tl.map (·.1)
        · exact r5 p hp b hb2
        · refine hoff p hp b ?_
          simp only [List.map_cons, List.map_append, List.mem_cons, List.mem_append, hb2, or_false] at hb ⊢
          rcases hb with h | h | h | h | h
          all_goals simp only [h, true_or, or_true]
      · intro z h1 h2 h3
        have z1 : z ≠ Str.ofString "k" := lp_nope h3 (by decide)
        have z2 : z ≠ Str.ofString "place" := lp_nope h3 (by decide)
        have z3 : z ≠ Str.ofString "many" := lp_nope h3 (by decide)
        have z4 : z ≠ Str.ofString "first" := lp_nope h3 (by decide)
        simp only [kstB, z1, z2, z3, z4, h1, h3, List.contains_nil, if_false, Bool.false_eq_true]
      · rw [r3]
        have e : (pl ns (i + 1)).toNat = (pl ns i).toNat + (ns.getD i 0).toNat := by
          show (pl ns i + ns.getD i 0).toNat = _
          lia
        rw [e]
  · intro c' u2 h10 tk10 hP F7 N7
    have p1 := hP.1
    have p2 := hP.2.1
    have p3 := hP.2.2.1
    have p4 := hP.2.2.2
    clear hP
    clear F6 N6
    try dsimp only at p1 p2 p3 p4 F7 N7
    k_steps
    refine ⟨rfl, ?_⟩
    exact hret _ _ _ _ (fun b o e => F7.keep b o (sg b o e)) (fin_facts N7 sg) ⟨x, dx, dd, _, _, _, _, _, c'.o, c'.kvs, c'.tl, rfl, rfl, lo, p1, p4⟩
end Mine

end
section
open PySem PySem.W PyProof.Rows PySem.Spec PySem.Calls
namespace Mine
theorem cut_inj {c : Nat} : ∀ {a b A B : List Nat}, c ∉ a → c ∉ b → a ++ c :: A = b ++ c :: B → a = b ∧ A = B
  | [], [], A, B, _, _, h => ⟨rfl, (List.cons.inj h).2⟩
  | [], y :: b, A, B, _, hb, h => absurd (List.mem_cons_self) ((List.cons.inj h).1 ▸ hb)
  | x :: a, [], A, B, ha, _, h => absurd (List.mem_cons_self) ((List.cons.inj h).1 ▸ ha)
  | x :: a, y :: b, A, B, ha, hb, h => by
    obtain ⟨e, h⟩ := List.cons.inj h
    obtain ⟨i, j⟩ := cut_inj (fun m => ha (List.mem_cons_of_mem _ m)) (fun m => hb (List.mem_cons_of_mem _ m)) h
    exact ⟨by rw [e, i], j⟩
theorem join_cons (c : Nat) (a b : Str) (r : List Str) : (Str.join ⟨#[c]⟩ (a :: b :: r)).cps.toList = a.cps.toList ++ c :: (Str.join ⟨#[c]⟩ (b :: r)).cps.toList := by
  show (a ++ (⟨#[c]⟩ : Str) ++ Str.join ⟨#[c]⟩ (b :: r)).cps.toList = _
  show ((a.cps ++ #[c]) ++ (Str.join ⟨#[c]⟩ (b :: r)).cps).toList = _
  simp
theorem str_ext {a b : Str} (h : a.cps.toList = b.cps.toList) : a = b := by
  cases a; cases b
  simpa using h
theorem join_inj {c : Nat} : ∀ {as bs : List Str}, as ≠ [] → bs ≠ [] → (∀ a ∈ as, c ∉ a.cps.toList) → (∀ b ∈ bs, c ∉ b.cps.toList) → (Str.join ⟨#[c]⟩ as).cps.toList = (Str.join ⟨#[c]⟩ bs).cps.toList → as = bs
  | [], _, h, _, _, _, _ => absurd rfl h
  | _, [], _, h, _, _, _ => absurd rfl h
  | [a], [b], _, _, _, _, h => by rw [str_ext (show a.cps.toList = b.cps.toList from h)]
  | [a], b :: b' :: r, _, _, ha, _, h => by
    rw [join_cons] at h
    have h : a.cps.toList = _ := h
    exact absurd (by rw [h]; simp) (ha a (.head _))
  | a :: a' :: r, [b], _, _, _, hb, h => by
    rw [join_cons] at h
    have h : _ = b.cps.toList := h
    exact absurd (by rw [← h]; simp) (hb b (.head _))
  | a :: a' :: r, b :: b' :: s, _, _, ha, hb, h => by
    rw [join_cons, join_cons] at h
    obtain ⟨i, j⟩ := cut_inj (ha a (.head _)) (hb b (.head _)) h
    rw [str_ext i, join_inj (as := a' :: r) (bs := b' :: s) (by simp) (by simp) (fun x hx => ha x (.tail _ hx)) (fun x hx => hb x (.tail _ hx)) j]
theorem cnt_nonneg (c : Nat) : ∀ l : List Nat, 0 ≤ cnt c l
  | [] => Int.le_refl _
  | n :: r => by
    have := cnt_nonneg c r
    rw [cnt_cons]
    split <;> omega
theorem split_is {x : Str} {c : Nat} {ps : List Str} (hne : ps ≠ []) (hf : ∀ p ∈ ps, c ∉ p.cps.toList) (hj : (Str.join ⟨#[c]⟩ ps).cps.toList = x.cps.toList) : Txt.split x ⟨#[c]⟩ = ps := by
  refine join_inj (c := c) (fun h => ?_) hne (StrLaws.split_free x c) hf (by rw [StrLaws.join_split, hj])
  have hl := split_len x c
  rw [h] at hl
  have h0 := cnt_nonneg c x.cps.toList
  rw [List.length_nil] at hl
  omega
noncomputable def joinN (c : Nat) : List (List Nat) → List Nat
  | [] => []
  | [a] => a
  | a :: r => a ++ c :: joinN c r
theorem joinN_is (c : Nat) : ∀ ws : List (List Nat), (Str.join ⟨#[c]⟩ (ws.map fun w => ⟨w.toArray⟩)).cps.toList = joinN c ws
  | [] => rfl
  | [a] => by simp [Str.join, joinN]
  | a :: b :: r => by
    have ih := joinN_is c (b :: r)
    show (Str.join ⟨#[c]⟩ ((⟨a.toArray⟩ : Str) :: (⟨b.toArray⟩ : Str) :: r.map fun w => ⟨w.toArray⟩)).cps.toList = _
    rw [join_cons]
    exact congrArg (fun l => a ++ c :: l) ih
theorem cps_of (l : List Char) (ns : List Nat) (h : l.map Char.toNat = ns) : Str.ofString (String.ofList l) = ⟨ns.toArray⟩ := by rw [Str.ofString_eq_byList]; unfold Str.ofStringByList; rw [String.toList_ofList, h]
end Mine

end
section
open PySem PySem.W PyProof.Rows PySem.Spec PySem.Calls
namespace Mine
noncomputable def cntL (k p : Int) : List Int := if k = 0 then (if p = 0 then [0, 1, 5, 1, 1, 1, 1, 1, 1, 0, 0, 0, 0, 0, 0, 0] else [0, 3, 1, 1, 1, 1, 1, 1, 1, 1, 1, 0, 0, 0, 0, 0])
  else (if p = 0 then [0, 2, 1, 3, 3, 2, 4, 3, 5, 5, 4, 4, 0, 0, 1, 125] else [0, 2, 1, 2, 4, 4, 3, 4, 7, 5, 4, 4, 0, 1, 2, 119])
noncomputable def knownL (k p : Int) : List Int := if k = 0 then (if p = 0 then [0, 1, 2, 3, 4, 5, 6, 7, 8, 9, 10, 11] else [0, 1, 2, 3, 4, 5, 6, 7, 8, 9, 10, 11])
  else (if p = 0 then [0, 1, 2, 3, 4, 5, 6, 7, 8, 17, 18, 19, 20, 21, 33, 34, 35, 36, 49, 50, 51, 65, 66, 81, 82, 97, 98, 113, 114, 129, 130, 145, 161, 177, 193, 209, 240] else [0, 1, 2, 3, 4, 5, 6, 7, 8, 9, 10, 17, 18, 19, 20, 21, 22, 33, 34, 35, 36, 37, 49, 50, 51, 52, 65, 66, 81, 82, 97, 98, 113, 114, 129, 145, 161, 177, 193, 209, 225, 240, 241])
noncomputable def txt (k p : Int) : Str := if k = 0 then (if p = 0 then Str.ofString "0 00 1 010 2 011 3 100 4 101 5 110 6 1110 7 11110 8 111110 9 1111110 a 11111110 b 111111110" else Str.ofString "0 00 1 01 2 10 3 110 4 1110 5 11110 6 111110 7 1111110 8 11111110 9 111111110 a 1111111110 b 11111111110")
  else (if p = 0 then Str.ofString "00 1010 01 00 02 01 03 100 04 1011 05 11010 06 1111000 07 11111000 08 1111110110 11 1100 12 11011 13 1111001 14 111110110 15 11111110110 21 11100 22 11111001 23 1111110111 24 111111110100 31 111010 32 111110111 33 111111110101 41 111011 42 1111111000 51 1111010 52 11111110111 61 1111011 62 111111110110 71 11111010 72 111111110111 81 111111000 82 111111111000000 91 111111001 a1 111111010 b1 1111111001 c1 1111111010 d1 11111111000 f0 11111111001" else Str.ofString "00 00 01 01 02 100 03 1010 04 11000 05 11001 06 111000 07 1111000 08 111110100 09 1111110110 0a 111111110100 11 1011 12 111001 13 11110110 14 111110101 15 11111110110 16 111111110101 21 11010 22 11110111 23 1111110111 24 111111110110 25 111111111000010 31 11011 32 11111000 33 1111111000 34 111111110111 41 111010 42 111110110 51 111011 52 1111111001 61 1111001 62 11111110111 71 1111010 72 11111111000 81 11111001 91 111110111 a1 111111000 b1 111111001 c1 111111010 d1 11111111001 e1 11111111100000 f0 1111111010 f1 111111111000011")
noncomputable def tabN (k p : Int) : List (Int × Int × Int) := if k = 0 then (if p = 0 then [(0, 0, 2), (1, 2, 3), (2, 3, 3), (3, 4, 3), (4, 5, 3), (5, 6, 3), (6, 14, 4), (7, 30, 5), (8, 62, 6), (9, 126, 7), (10, 254, 8), (11, 510, 9)] else [(0, 0, 2), (1, 1, 2), (2, 2, 2), (3, 6, 3), (4, 14, 4), (5, 30, 5), (6, 62, 6), (7, 126, 7), (8, 254, 8), (9, 510, 9), (10, 1022, 10), (11, 2046, 11)])
  else (if p = 0 then [(1, 0, 2), (2, 1, 2), (3, 4, 3), (0, 10, 4), (4, 11, 4), (17, 12, 4), (5, 26, 5), (18, 27, 5), (33, 28, 5), (49, 58, 6), (65, 59, 6), (6, 120, 7), (19, 121, 7), (81, 122, 7), (97, 123, 7), (7, 248, 8), (34, 249, 8), (113, 250, 8), (20, 502, 9), (50, 503, 9), (129, 504, 9), (145, 505, 9), (161, 506, 9), (8, 1014, 10), (35, 1015, 10), (66, 1016, 10), (177, 1017, 10), (193, 1018, 10), (21, 2038, 11), (82, 2039, 11), (209, 2040, 11), (240, 2041, 11), (36, 4084, 12), (51, 4085, 12), (98, 4086, 12), (114, 4087, 12), (130, 32704, 15), (9, 65410, 16), (10, 65411, 16), (22, 65412, 16), (23, 65413, 16), (24, 65414, 16), (25, 65415, 16), (26, 65416, 16), (37, 65417, 16), (38, 65418, 16), (39, 65419, 16), (40, 65420, 16), (41, 65421, 16), (42, 65422, 16), (52, 65423, 16), (53, 65424, 16), (54, 65425, 16), (55, 65426, 16), (56, 65427, 16), (57, 65428, 16), (58, 65429, 16), (67, 65430, 16), (68, 65431, 16), (69, 65432, 16), (70, 65433, 16), (71, 65434, 16), (72, 65435, 16), (73, 65436, 16), (74, 65437, 16), (83, 65438, 16), (84, 65439, 16), (85, 65440, 16), (86, 65441, 16), (87, 65442, 16), (88, 65443, 16), (89, 65444, 16), (90, 65445, 16), (99, 65446, 16), (100, 65447, 16), (101, 65448, 16), (102, 65449, 16), (103, 65450, 16), (104, 65451, 16), (105, 65452, 16), (106, 65453, 16), (115, 65454, 16), (116, 65455, 16), (117, 65456, 16), (118, 65457, 16), (119, 65458, 16), (120, 65459, 16), (121, 65460, 16), (122, 65461, 16), (131, 65462, 16), (132, 65463, 16), (133, 65464, 16), (134, 65465, 16), (135, 65466, 16), (136, 65467, 16), (137, 65468, 16), (138, 65469, 16), (146, 65470, 16), (147, 65471, 16), (148, 65472, 16), (149, 65473, 16), (150, 65474, 16), (151, 65475, 16), (152, 65476, 16), (153, 65477, 16), (154, 65478, 16), (162, 65479, 16), (163, 65480, 16), (164, 65481, 16), (165, 65482, 16), (166, 65483, 16), (167, 65484, 16), (168, 65485, 16), (169, 65486, 16), (170, 65487, 16), (178, 65488, 16), (179, 65489, 16), (180, 65490, 16), (181, 65491, 16), (182, 65492, 16), (183, 65493, 16), (184, 65494, 16), (185, 65495, 16), (186, 65496, 16), (194, 65497, 16), (195, 65498, 16), (196, 65499, 16), (197, 65500, 16), (198, 65501, 16), (199, 65502, 16), (200, 65503, 16), (201, 65504, 16), (202, 65505, 16), (210, 65506, 16), (211, 65507, 16), (212, 65508, 16), (213, 65509, 16), (214, 65510, 16), (215, 65511, 16), (216, 65512, 16), (217, 65513, 16), (218, 65514, 16), (225, 65515, 16), (226, 65516, 16), (227, 65517, 16), (228, 65518, 16), (229, 65519, 16), (230, 65520, 16), (231, 65521, 16), (232, 65522, 16), (233, 65523, 16), (234, 65524, 16), (241, 65525, 16), (242, 65526, 16), (243, 65527, 16), (244, 65528, 16), (245, 65529, 16), (246, 65530, 16), (247, 65531, 16), (248, 65532, 16), (249, 65533, 16), (250, 65534, 16)] else [(0, 0, 2), (1, 1, 2), (2, 4, 3), (3, 10, 4), (17, 11, 4), (4, 24, 5), (5, 25, 5), (33, 26, 5), (49, 27, 5), (6, 56, 6), (18, 57, 6), (65, 58, 6), (81, 59, 6), (7, 120, 7), (97, 121, 7), (113, 122, 7), (19, 246, 8), (34, 247, 8), (50, 248, 8), (129, 249, 8), (8, 500, 9), (20, 501, 9), (66, 502, 9), (145, 503, 9), (161, 504, 9), (177, 505, 9), (193, 506, 9), (9, 1014, 10), (35, 1015, 10), (51, 1016, 10), (82, 1017, 10), (240, 1018, 10), (21, 2038, 11), (98, 2039, 11), (114, 2040, 11), (209, 2041, 11), (10, 4084, 12), (22, 4085, 12), (36, 4086, 12), (52, 4087, 12), (225, 16352, 14), (37, 32706, 15), (241, 32707, 15), (23, 65416, 16), (24, 65417, 16), (25, 65418, 16), (26, 65419, 16), (38, 65420, 16), (39, 65421, 16), (40, 65422, 16), (41, 65423, 16), (42, 65424, 16), (53, 65425, 16), (54, 65426, 16), (55, 65427, 16), (56, 65428, 16), (57, 65429, 16), (58, 65430, 16), (67, 65431, 16), (68, 65432, 16), (69, 65433, 16), (70, 65434, 16), (71, 65435, 16), (72, 65436, 16), (73, 65437, 16), (74, 65438, 16), (83, 65439, 16), (84, 65440, 16), (85, 65441, 16), (86, 65442, 16), (87, 65443, 16), (88, 65444, 16), (89, 65445, 16), (90, 65446, 16), (99, 65447, 16), (100, 65448, 16), (101, 65449, 16), (102, 65450, 16), (103, 65451, 16), (104, 65452, 16), (105, 65453, 16), (106, 65454, 16), (115, 65455, 16), (116, 65456, 16), (117, 65457, 16), (118, 65458, 16), (119, 65459, 16), (120, 65460, 16), (121, 65461, 16), (122, 65462, 16), (130, 65463, 16), (131, 65464, 16), (132, 65465, 16), (133, 65466, 16), (134, 65467, 16), (135, 65468, 16), (136, 65469, 16), (137, 65470, 16), (138, 65471, 16), (146, 65472, 16), (147, 65473, 16), (148, 65474, 16), (149, 65475, 16), (150, 65476, 16), (151, 65477, 16), (152, 65478, 16), (153, 65479, 16), (154, 65480, 16), (162, 65481, 16), (163, 65482, 16), (164, 65483, 16), (165, 65484, 16), (166, 65485, 16), (167, 65486, 16), (168, 65487, 16), (169, 65488, 16), (170, 65489, 16), (178, 65490, 16), (179, 65491, 16), (180, 65492, 16), (181, 65493, 16), (182, 65494, 16), (183, 65495, 16), (184, 65496, 16), (185, 65497, 16), (186, 65498, 16), (194, 65499, 16), (195, 65500, 16), (196, 65501, 16), (197, 65502, 16), (198, 65503, 16), (199, 65504, 16), (200, 65505, 16), (201, 65506, 16), (202, 65507, 16), (210, 65508, 16), (211, 65509, 16), (212, 65510, 16), (213, 65511, 16), (214, 65512, 16), (215, 65513, 16), (216, 65514, 16), (217, 65515, 16), (218, 65516, 16), (226, 65517, 16), (227, 65518, 16), (228, 65519, 16), (229, 65520, 16), (230, 65521, 16), (231, 65522, 16), (232, 65523, 16), (233, 65524, 16), (234, 65525, 16), (242, 65526, 16), (243, 65527, 16), (244, 65528, 16), (245, 65529, 16), (246, 65530, 16), (247, 65531, 16), (248, 65532, 16), (249, 65533, 16), (250, 65534, 16)])
noncomputable def restL (k p : Int) : List Int := if k = 0 then (if p = 0 then [] else [])
  else (if p = 0 then [9, 10, 22, 23, 24, 25, 26, 37, 38, 39, 40, 41, 42, 52, 53, 54, 55, 56, 57, 58, 67, 68, 69, 70, 71, 72, 73, 74, 83, 84, 85, 86, 87, 88, 89, 90, 99, 100, 101, 102, 103, 104, 105, 106, 115, 116, 117, 118, 119, 120, 121, 122, 131, 132, 133, 134, 135, 136, 137, 138, 146, 147, 148, 149, 150, 151, 152, 153, 154, 162, 163, 164, 165, 166, 167, 168, 169, 170, 178, 179, 180, 181, 182, 183, 184, 185, 186, 194, 195, 196, 197, 198, 199, 200, 201, 202, 210, 211, 212, 213, 214, 215, 216, 217, 218, 225, 226, 227, 228, 229, 230, 231, 232, 233, 234, 241, 242, 243, 244, 245, 246, 247, 248, 249, 250] else [23, 24, 25, 26, 38, 39, 40, 41, 42, 53, 54, 55, 56, 57, 58, 67, 68, 69, 70, 71, 72, 73, 74, 83, 84, 85, 86, 87, 88, 89, 90, 99, 100, 101, 102, 103, 104, 105, 106, 115, 116, 117, 118, 119, 120, 121, 122, 130, 131, 132, 133, 134, 135, 136, 137, 138, 146, 147, 148, 149, 150, 151, 152, 153, 154, 162, 163, 164, 165, 166, 167, 168, 169, 170, 178, 179, 180, 181, 182, 183, 184, 185, 186, 194, 195, 196, 197, 198, 199, 200, 201, 202, 210, 211, 212, 213, 214, 215, 216, 217, 218, 226, 227, 228, 229, 230, 231, 232, 233, 234, 242, 243, 244, 245, 246, 247, 248, 249, 250])
noncomputable def tabQ (k p : Int) : List (Int × Int × Int) := doneTo (cntL k p) (symL k p) 16
set_option maxHeartbeats 4000000 in
theorem tab_is {k p : Int} (hk : k = 0 ∨ k = 1) (hp : p = 0 ∨ p = 1) : tabQ k p = tabN k p := by
  rcases hk with rfl | rfl <;> rcases hp with rfl | rfl <;> decide +kernel
noncomputable def rowsOk (ns ms : List Int) : Bool := decide (ns.length = 16) && decide (∀ n ∈ ns, 0 ≤ n) && decide (ns.sum = (ms.length : Int)) && decide (ms.length ≤ 256) && decide ms.Nodup &&
  (List.range 16).all fun i => decide (0 ≤ ns.getD i 0 ∧ ns.getD i 0 ≤ 256 ∧ 0 ≤ cd ns i ∧ cd ns i ≤ 131072 ∧ 0 ≤ pl ns i ∧ pl ns i ≤ 256 ∧ ¬ (cd ns i + ns.getD i 0 ≥ 2 ^ (i + 1) ∧ ns.getD i 0 > 0)) && decide (pl ns i + ns.getD i 0 ≤ (ms.length : Int))
set_option maxHeartbeats 4000000 in
theorem rows_ok {k p : Int} (hk : k = 0 ∨ k = 1) (hp : p = 0 ∨ p = 1) : rowsOk (cntL k p) (symL k p) = true := by
  rcases hk with rfl | rfl <;> rcases hp with rfl | rfl <;> decide +kernel
noncomputable def pairsOk (qs : List (Int × Int × Int)) : List Str → List Int → Bool
  | y :: z :: ws, k :: ks => decide (rdB 16 y = some k) && (match qs.find? fun q => decide (q.1 = k) with
    | some q => decide (rdB 2 z = some q.2.1) && decide (((z.length : Nat) : Int) = q.2.2)
    | none => false) && pairsOk qs ws ks
  | [], [] => true
  | _, _ => false
noncomputable def wordsN (k p : Int) : List (List Nat) := if k = 0 then (if p = 0 then [[48], [48, 48], [49], [48, 49, 48], [50], [48, 49, 49], [51], [49, 48, 48], [52], [49, 48, 49], [53], [49, 49, 48], [54], [49, 49, 49, 48], [55], [49, 49, 49, 49, 48], [56], [49, 49, 49, 49, 49, 48], [57], [49, 49, 49, 49, 49, 49, 48], [97], [49, 49, 49, 49, 49, 49, 49, 48], [98], [49, 49, 49, 49, 49, 49, 49, 49, 48]] else [[48], [48, 48], [49], [48, 49], [50], [49, 48], [51], [49, 49, 48], [52], [49, 49, 49, 48], [53], [49, 49, 49, 49, 48], [54], [49, 49, 49, 49, 49, 48], [55], [49, 49, 49, 49, 49, 49, 48], [56], [49, 49, 49, 49, 49, 49, 49, 48], [57], [49, 49, 49, 49, 49, 49, 49, 49, 48], [97], [49, 49, 49, 49, 49, 49, 49, 49, 49, 48], [98], [49, 49, 49, 49, 49, 49, 49, 49, 49, 49, 48]])
  else (if p = 0 then [[48, 48], [49, 48, 49, 48], [48, 49], [48, 48], [48, 50], [48, 49], [48, 51], [49, 48, 48], [48, 52], [49, 48, 49, 49], [48, 53], [49, 49, 48, 49, 48], [48, 54], [49, 49, 49, 49, 48, 48, 48], [48, 55], [49, 49, 49, 49, 49, 48, 48, 48], [48, 56], [49, 49, 49, 49, 49, 49, 48, 49, 49, 48], [49, 49], [49, 49, 48, 48], [49, 50], [49, 49, 48, 49, 49], [49, 51], [49, 49, 49, 49, 48, 48, 49], [49, 52], [49, 49, 49, 49, 49, 48, 49, 49, 48], [49, 53], [49, 49, 49, 49, 49, 49, 49, 48, 49, 49, 48], [50, 49], [49, 49, 49, 48, 48], [50, 50], [49, 49, 49, 49, 49, 48, 48, 49], [50, 51], [49, 49, 49, 49, 49, 49, 48, 49, 49, 49], [50, 52], [49, 49, 49, 49, 49, 49, 49, 49, 48, 49, 48, 48], [51, 49], [49, 49, 49, 48, 49, 48], [51, 50], [49, 49, 49, 49, 49, 48, 49, 49, 49], [51, 51], [49, 49, 49, 49, 49, 49, 49, 49, 48, 49, 48, 49], [52, 49], [49, 49, 49, 48, 49, 49], [52, 50], [49, 49, 49, 49, 49, 49, 49, 48, 48, 48], [53, 49], [49, 49, 49, 49, 48, 49, 48], [53, 50], [49, 49, 49, 49, 49, 49, 49, 48, 49, 49, 49], [54, 49], [49, 49, 49, 49, 48, 49, 49], [54, 50], [49, 49, 49, 49, 49, 49, 49, 49, 48, 49, 49, 48], [55, 49], [49, 49, 49, 49, 49, 48, 49, 48], [55, 50], [49, 49, 49, 49, 49, 49, 49, 49, 48, 49, 49, 49], [56, 49], [49, 49, 49, 49, 49, 49, 48, 48, 48], [56, 50], [49, 49, 49, 49, 49, 49, 49, 49, 49, 48, 48, 48, 48, 48, 48], [57, 49], [49, 49, 49, 49, 49, 49, 48, 48, 49], [97, 49], [49, 49, 49, 49, 49, 49, 48, 49, 48], [98, 49], [49, 49, 49, 49, 49, 49, 49, 48, 48, 49], [99, 49], [49, 49, 49, 49, 49, 49, 49, 48, 49, 48], [100, 49], [49, 49, 49, 49, 49, 49, 49, 49, 48, 48, 48], [102, 48], [49, 49, 49, 49, 49, 49, 49, 49, 48, 48, 49]] else [[48, 48], [48, 48], [48, 49], [48, 49], [48, 50], [49, 48, 48], [48, 51], [49, 48, 49, 48], [48, 52], [49, 49, 48, 48, 48], [48, 53], [49, 49, 48, 48, 49], [48, 54], [49, 49, 49, 48, 48, 48], [48, 55], [49, 49, 49, 49, 48, 48, 48], [48, 56], [49, 49, 49, 49, 49, 48, 49, 48, 48], [48, 57], [49, 49, 49, 49, 49, 49, 48, 49, 49, 48], [48, 97], [49, 49, 49, 49, 49, 49, 49, 49, 48, 49, 48, 48], [49, 49], [49, 48, 49, 49], [49, 50], [49, 49, 49, 48, 48, 49], [49, 51], [49, 49, 49, 49, 48, 49, 49, 48], [49, 52], [49, 49, 49, 49, 49, 48, 49, 48, 49], [49, 53], [49, 49, 49, 49, 49, 49, 49, 48, 49, 49, 48], [49, 54], [49, 49, 49, 49, 49, 49, 49, 49, 48, 49, 48, 49], [50, 49], [49, 49, 48, 49, 48], [50, 50], [49, 49, 49, 49, 48, 49, 49, 49], [50, 51], [49, 49, 49, 49, 49, 49, 48, 49, 49, 49], [50, 52], [49, 49, 49, 49, 49, 49, 49, 49, 48, 49, 49, 48], [50, 53], [49, 49, 49, 49, 49, 49, 49, 49, 49, 48, 48, 48, 48, 49, 48], [51, 49], [49, 49, 48, 49, 49], [51, 50], [49, 49, 49, 49, 49, 48, 48, 48], [51, 51], [49, 49, 49, 49, 49, 49, 49, 48, 48, 48], [51, 52], [49, 49, 49, 49, 49, 49, 49, 49, 48, 49, 49, 49], [52, 49], [49, 49, 49, 48, 49, 48], [52, 50], [49, 49, 49, 49, 49, 48, 49, 49, 48], [53, 49], [49, 49, 49, 48, 49, 49], [53, 50], [49, 49, 49, 49, 49, 49, 49, 48, 48, 49], [54, 49], [49, 49, 49, 49, 48, 48, 49], [54, 50], [49, 49, 49, 49, 49, 49, 49, 48, 49, 49, 49], [55, 49], [49, 49, 49, 49, 48, 49, 48], [55, 50], [49, 49, 49, 49, 49, 49, 49, 49, 48, 48, 48], [56, 49], [49, 49, 49, 49, 49, 48, 48, 49], [57, 49], [49, 49, 49, 49, 49, 48, 49, 49, 49], [97, 49], [49, 49, 49, 49, 49, 49, 48, 48, 48], [98, 49], [49, 49, 49, 49, 49, 49, 48, 48, 49], [99, 49], [49, 49, 49, 49, 49, 49, 48, 49, 48], [100, 49], [49, 49, 49, 49, 49, 49, 49, 49, 48, 48, 49], [101, 49], [49, 49, 49, 49, 49, 49, 49, 49, 49, 48, 48, 48, 48, 48], [102, 48], [49, 49, 49, 49, 49, 49, 49, 48, 49, 48], [102, 49], [49, 49, 49, 49, 49, 49, 49, 49, 49, 48, 48, 48, 48, 49, 49]])
theorem cps_lit (l : List Char) : (Str.ofString (String.ofList l)).cps.toList = l.map Char.toNat := by rw [cps_of l _ rfl]
theorem lit_split (l : List Char) (ws : List (List Nat)) (h0 : ws ≠ []) (h1 : (ws.all fun w => !(w.any fun n => n == 32)) = true) (h2 : joinN 32 ws = l.map Char.toNat) :
    Txt.split (Str.ofString (String.ofList l)) (Str.ofString " ") = ws.map fun w => ⟨w.toArray⟩ := by
  have e : Str.ofString " " = ⟨#[32]⟩ := cps_of [' '] [32] (by decide)
  rw [e]
  refine split_is (by simpa using h0) (fun q hq => ?_) (by rw [cps_lit, joinN_is, h2])
  obtain ⟨w, hw, rfl⟩ := List.mem_map.mp hq
  have := List.all_eq_true.mp h1 w hw
  simp only [Bool.not_eq_true', List.any_eq_false, beq_iff_eq] at this
  exact fun hm => this 32 (by simpa using hm) rfl
theorem lit0 : Txt.split (Str.ofString "0 00 1 010 2 011 3 100 4 101 5 110 6 1110 7 11110 8 111110 9 1111110 a 11111110 b 111111110") (Str.ofString " ") = ([[48], [48, 48], [49], [48, 49, 48], [50], [48, 49, 49], [51], [49, 48, 48], [52], [49, 48, 49], [53], [49, 49, 48], [54], [49, 49, 49, 48], [55], [49, 49, 49, 49, 48], [56], [49, 49, 49, 49, 49, 48], [57], [49, 49, 49, 49, 49, 49, 48], [97], [49, 49, 49, 49, 49, 49, 49, 48], [98], [49, 49, 49, 49, 49, 49, 49, 49, 48]] : List (List Nat)).map fun w => ⟨w.toArray⟩ :=
  lit_split _ _ (by decide) (by decide +kernel) (by decide +kernel)
theorem lit1 : Txt.split (Str.ofString "0 00 1 01 2 10 3 110 4 1110 5 11110 6 111110 7 1111110 8 11111110 9 111111110 a 1111111110 b 11111111110") (Str.ofString " ") = ([[48], [48, 48], [49], [48, 49], [50], [49, 48], [51], [49, 49, 48], [52], [49, 49, 49, 48], [53], [49, 49, 49, 49, 48], [54], [49, 49, 49, 49, 49, 48], [55], [49, 49, 49, 49, 49, 49, 48], [56], [49, 49, 49, 49, 49, 49, 49, 48], [57], [49, 49, 49, 49, 49, 49, 49, 49, 48], [97], [49, 49, 49, 49, 49, 49, 49, 49, 49, 48], [98], [49, 49, 49, 49, 49, 49, 49, 49, 49, 49, 48]] : List (List Nat)).map fun w => ⟨w.toArray⟩ :=
  lit_split _ _ (by decide) (by decide +kernel) (by decide +kernel)
theorem lit2 : Txt.split (Str.ofString "00 1010 01 00 02 01 03 100 04 1011 05 11010 06 1111000 07 11111000 08 1111110110 11 1100 12 11011 13 1111001 14 111110110 15 11111110110 21 11100 22 11111001 23 1111110111 24 111111110100 31 111010 32 111110111 33 111111110101 41 111011 42 1111111000 51 1111010 52 11111110111 61 1111011 62 111111110110 71 11111010 72 111111110111 81 111111000 82 111111111000000 91 111111001 a1 111111010 b1 1111111001 c1 1111111010 d1 11111111000 f0 11111111001") (Str.ofString " ") = ([[48, 48], [49, 48, 49, 48], [48, 49], [48, 48], [48, 50], [48, 49], [48, 51], [49, 48, 48], [48, 52], [49, 48, 49, 49], [48, 53], [49, 49, 48, 49, 48], [48, 54], [49, 49, 49, 49, 48, 48, 48], [48, 55], [49, 49, 49, 49, 49, 48, 48, 48], [48, 56], [49, 49, 49, 49, 49, 49, 48, 49, 49, 48], [49, 49], [49, 49, 48, 48], [49, 50], [49, 49, 48, 49, 49], [49, 51], [49, 49, 49, 49, 48, 48, 49], [49, 52], [49, 49, 49, 49, 49, 48, 49, 49, 48], [49, 53], [49, 49, 49, 49, 49, 49, 49, 48, 49, 49, 48], [50, 49], [49, 49, 49, 48, 48], [50, 50], [49, 49, 49, 49, 49, 48, 48, 49], [50, 51], [49, 49, 49, 49, 49, 49, 48, 49, 49, 49], [50, 52], [49, 49, 49, 49, 49, 49, 49, 49, 48, 49, 48, 48], [51, 49], [49, 49, 49, 48, 49, 48], [51, 50], [49, 49, 49, 49, 49, 48, 49, 49, 49], [51, 51], [49, 49, 49, 49, 49, 49, 49, 49, 48, 49, 48, 49], [52, 49], [49, 49, 49, 48, 49, 49], [52, 50], [49, 49, 49, 49, 49, 49, 49, 48, 48, 48], [53, 49], [49, 49, 49, 49, 48, 49, 48], [53, 50], [49, 49, 49, 49, 49, 49, 49, 48, 49, 49, 49], [54, 49], [49, 49, 49, 49, 48, 49, 49], [54, 50], [49, 49, 49, 49, 49, 49, 49, 49, 48, 49, 49, 48], [55, 49], [49, 49, 49, 49, 49, 48, 49, 48], [55, 50], [49, 49, 49, 49, 49, 49, 49, 49, 48, 49, 49, 49], [56, 49], [49, 49, 49, 49, 49, 49, 48, 48, 48], [56, 50], [49, 49, 49, 49, 49, 49, 49, 49, 49, 48, 48, 48, 48, 48, 48], [57, 49], [49, 49, 49, 49, 49, 49, 48, 48, 49], [97, 49], [49, 49, 49, 49, 49, 49, 48, 49, 48], [98, 49], [49, 49, 49, 49, 49, 49, 49, 48, 48, 49], [99, 49], [49, 49, 49, 49, 49, 49, 49, 48, 49, 48], [100, 49], [49, 49, 49, 49, 49, 49, 49, 49, 48, 48, 48], [102, 48], [49, 49, 49, 49, 49, 49, 49, 49, 48, 48, 49]] : List (List Nat)).map fun w => ⟨w.toArray⟩ :=
  lit_split _ _ (by decide) (by decide +kernel) (by decide +kernel)
theorem lit3 : Txt.split (Str.ofString "00 00 01 01 02 100 03 1010 04 11000 05 11001 06 111000 07 1111000 08 111110100 09 1111110110 0a 111111110100 11 1011 12 111001 13 11110110 14 111110101 15 11111110110 16 111111110101 21 11010 22 11110111 23 1111110111 24 111111110110 25 111111111000010 31 11011 32 11111000 33 1111111000 34 111111110111 41 111010 42 111110110 51 111011 52 1111111001 61 1111001 62 11111110111 71 1111010 72 11111111000 81 11111001 91 111110111 a1 111111000 b1 111111001 c1 111111010 d1 11111111001 e1 11111111100000 f0 1111111010 f1 111111111000011") (Str.ofString " ") = ([[48, 48], [48, 48], [48, 49], [48, 49], [48, 50], [49, 48, 48], [48, 51], [49, 48, 49, 48], [48, 52], [49, 49, 48, 48, 48], [48, 53], [49, 49, 48, 48, 49], [48, 54], [49, 49, 49, 48, 48, 48], [48, 55], [49, 49, 49, 49, 48, 48, 48], [48, 56], [49, 49, 49, 49, 49, 48, 49, 48, 48], [48, 57], [49, 49, 49, 49, 49, 49, 48, 49, 49, 48], [48, 97], [49, 49, 49, 49, 49, 49, 49, 49, 48, 49, 48, 48], [49, 49], [49, 48, 49, 49], [49, 50], [49, 49, 49, 48, 48, 49], [49, 51], [49, 49, 49, 49, 48, 49, 49, 48], [49, 52], [49, 49, 49, 49, 49, 48, 49, 48, 49], [49, 53], [49, 49, 49, 49, 49, 49, 49, 48, 49, 49, 48], [49, 54], [49, 49, 49, 49, 49, 49, 49, 49, 48, 49, 48, 49], [50, 49], [49, 49, 48, 49, 48], [50, 50], [49, 49, 49, 49, 48, 49, 49, 49], [50, 51], [49, 49, 49, 49, 49, 49, 48, 49, 49, 49], [50, 52], [49, 49, 49, 49, 49, 49, 49, 49, 48, 49, 49, 48], [50, 53], [49, 49, 49, 49, 49, 49, 49, 49, 49, 48, 48, 48, 48, 49, 48], [51, 49], [49, 49, 48, 49, 49], [51, 50], [49, 49, 49, 49, 49, 48, 48, 48], [51, 51], [49, 49, 49, 49, 49, 49, 49, 48, 48, 48], [51, 52], [49, 49, 49, 49, 49, 49, 49, 49, 48, 49, 49, 49], [52, 49], [49, 49, 49, 48, 49, 48], [52, 50], [49, 49, 49, 49, 49, 48, 49, 49, 48], [53, 49], [49, 49, 49, 48, 49, 49], [53, 50], [49, 49, 49, 49, 49, 49, 49, 48, 48, 49], [54, 49], [49, 49, 49, 49, 48, 48, 49], [54, 50], [49, 49, 49, 49, 49, 49, 49, 48, 49, 49, 49], [55, 49], [49, 49, 49, 49, 48, 49, 48], [55, 50], [49, 49, 49, 49, 49, 49, 49, 49, 48, 48, 48], [56, 49], [49, 49, 49, 49, 49, 48, 48, 49], [57, 49], [49, 49, 49, 49, 49, 48, 49, 49, 49], [97, 49], [49, 49, 49, 49, 49, 49, 48, 48, 48], [98, 49], [49, 49, 49, 49, 49, 49, 48, 48, 49], [99, 49], [49, 49, 49, 49, 49, 49, 48, 49, 48], [100, 49], [49, 49, 49, 49, 49, 49, 49, 49, 48, 48, 49], [101, 49], [49, 49, 49, 49, 49, 49, 49, 49, 49, 48, 48, 48, 48, 48], [102, 48], [49, 49, 49, 49, 49, 49, 49, 48, 49, 48], [102, 49], [49, 49, 49, 49, 49, 49, 49, 49, 49, 48, 48, 48, 48, 49, 49]] : List (List Nat)).map fun w => ⟨w.toArray⟩ :=
  lit_split _ _ (by decide) (by decide +kernel) (by decide +kernel)
theorem txt_split {k p : Int} (hk : k = 0 ∨ k = 1) (hp : p = 0 ∨ p = 1) : Txt.split (txt k p) (Str.ofString " ") = (wordsN k p).map fun w => ⟨w.toArray⟩ := by
  rcases hk with rfl | rfl <;> rcases hp with rfl | rfl
  · exact lit0
  · exact lit1
  · exact lit2
  · exact lit3
set_option maxHeartbeats 4000000 in
theorem pairs_ok {k p : Int} (hk : k = 0 ∨ k = 1) (hp : p = 0 ∨ p = 1) : pairsOk (tabN k p) (Txt.split (txt k p) (Str.ofString " ")) (knownL k p) = true := by
  rw [txt_split hk hp]
  rcases hk with rfl | rfl <;> rcases hp with rfl | rfl <;> decide +kernel
theorem pairs_at {qs : List (Int × Int × Int)} : ∀ {ws : List Str} {ks : List Int}, pairsOk qs ws ks = true → ws.length = 2 * ks.length ∧ ∀ i, i < ks.length →
    ∃ y z c, ws[2 * i]? = some y ∧ ws[2 * i + 1]? = some z ∧ rdB 16 y = ks[i]? ∧ rdB 2 z = some c ∧ (ks.getD i 0, c, (z.length : Int)) ∈ qs
  | y :: z :: ws, k :: ks, h => by
    unfold pairsOk at h
    simp only [Bool.and_eq_true, decide_eq_true_eq] at h
    obtain ⟨⟨h1, h2⟩, h3⟩ := h
    obtain ⟨i1, i2⟩ := pairs_at h3
    refine ⟨by simp only [List.length_cons, i1]; omega, fun i hi => ?_⟩
    cases i with
    | zero =>
      split at h2
      · rename_i q e
        simp only [Bool.and_eq_true, decide_eq_true_eq] at h2
        have hm := List.mem_of_find?_eq_some e
        have hk : q.1 = k := by simpa using List.find?_some e
        exact ⟨y, z, q.2.1, rfl, rfl, h1, h2.1, by rw [h2.2]; subst hk; exact hm⟩
      · cases h2
    | succ i =>
      obtain ⟨y', z', c', a1, a2, a3, a4, a5⟩ := i2 i (by simpa using hi)
      exact ⟨y', z', c', a1, a2, a3, a4, a5⟩
  | [], [], _ => ⟨rfl, fun i hi => nomatch hi⟩
  | [], _ :: _, h => by simp [pairsOk] at h
  | [_], _, h => by simp [pairsOk] at h
  | _ :: _ :: _, [], h => by simp [pairsOk] at h
theorem huff_at (w : World) (mean : ExcName → Option Value) (mg mb : Str → Option Value) {k p : Int} (hk : k = 0 ∨ k = 1) (hp : p = 0 ∨ p = 1) {cs ys : List Value} {c y : Addr} (ic : IntsAre cs (cntL k p)) (iy : IntsAre ys (symL k p)) :
    Pur w mean mg mb 133 [.ref c, .ref y] 5 (fun h => IsTup h c cs.toArray ∧ IsTup h y ys.toArray) (TabOut w c y (tabN k p)) := by
  have h := rows_ok hk hp
  unfold rowsOk at h
  simp only [Bool.and_eq_true, decide_eq_true_eq, List.all_eq_true, List.mem_range] at h
  obtain ⟨⟨⟨⟨⟨h1, h2⟩, h3⟩, h4⟩, h5⟩, h6⟩ := h
  rw [← tab_is hk hp]
  exact huff_C w mean mg mb c y cs ys _ _ ic iy h1 h2 h3 h4 h5 (fun i hi => (h6 i hi).1) (fun i hi => (h6 i hi).2)
noncomputable def sortedL (k : Int) : List Int := if k = 0 then [0, 1, 2, 3, 4, 5, 6, 7, 8, 9, 10, 11] else [0, 1, 2, 3, 4, 5, 6, 7, 8, 9, 10, 17, 18, 19, 20, 21, 22, 23, 24, 25, 26, 33, 34, 35, 36, 37, 38, 39, 40, 41, 42, 49, 50, 51, 52, 53, 54, 55, 56, 57, 58, 65, 66, 67, 68, 69, 70, 71, 72, 73, 74, 81, 82, 83, 84, 85, 86, 87, 88, 89, 90, 97, 98, 99, 100, 101, 102, 103, 104, 105, 106, 113, 114, 115, 116, 117, 118, 119, 120, 121, 122, 129, 130, 131, 132, 133, 134, 135, 136, 137, 138, 145, 146, 147, 148, 149, 150, 151, 152, 153, 154, 161, 162, 163, 164, 165, 166, 167, 168, 169, 170, 177, 178, 179, 180, 181, 182, 183, 184, 185, 186, 193, 194, 195, 196, 197, 198, 199, 200, 201, 202, 209, 210, 211, 212, 213, 214, 215, 216, 217, 218, 225, 226, 227, 228, 229, 230, 231, 232, 233, 234, 240, 241, 242, 243, 244, 245, 246, 247, 248, 249, 250]
theorem known_len {k p : Int} : (knownL k p).length ≤ 64 := by
  unfold knownL
  split <;> split <;> decide
end Mine

end
section
open PySem PySem.W PyProof.Rows PySem.Spec PySem.Calls
namespace Mine
theorem tup_top {K : Frag} {h : Heap} (X : K.In h) {t : Addr} {its : Array Value} {n : Nat} {d : Option Addr} {sl : Array (Option Value)} (ho : K.lookup t = some { cls := .type "tuple", dict := d, data := .seq its n, slots := sl }) : IsTup h t its := ⟨_, X _ _ ho, rfl, _, rfl⟩
theorem cnt_at {w : World} {h : Heap} (X : (Mine.hd.heap_39 w.params).In h) {k p : Int} (hk : k = 0 ∨ k = 1) (hp : p = 0 ∨ p = 1) : ∃ cs, IsTup h (cadr k p) cs.toArray ∧ IntsAre cs (cntL k p) := by
  have fillK : (Mine.hd.heap_39 w.params).In h → PySem.Challenge.rw_ok0131_01 = PySem.Challenge.rw_ok0131_01 → True := by
    k_fill
    exact fun _ _ => trivial
  rcases hk with rfl | rfl <;> rcases hp with rfl | rfl
  · exact ⟨_, tup_top X (t := 15) (by k_is), by show IntsAre _ [0, 1, 5, 1, 1, 1, 1, 1, 1, 0, 0, 0, 0, 0, 0, 0]; repeat constructor⟩
  · exact ⟨_, tup_top X (t := 16) (by k_is), by show IntsAre _ [0, 3, 1, 1, 1, 1, 1, 1, 1, 1, 1, 0, 0, 0, 0, 0]; repeat constructor⟩
  · exact ⟨_, tup_top X (t := 18) (by k_is), by show IntsAre _ [0, 2, 1, 3, 3, 2, 4, 3, 5, 5, 4, 4, 0, 0, 1, 125]; repeat constructor⟩
  · exact ⟨_, tup_top X (t := 19) (by k_is), by show IntsAre _ [0, 2, 1, 2, 4, 4, 3, 4, 7, 5, 4, 4, 0, 1, 2, 119]; repeat constructor⟩
end Mine

end
section
open PySem PySem.W PyProof.Rows PySem.Spec PySem.Calls PyProof.V
namespace Mine
noncomputable def wantTo : Nat → List Int
  | 0 => [0, 240]
  | r + 1 => wantTo r ++ rowTo r 10
theorem wantTo_len (r : Nat) : (wantTo r).length = 2 + 10 * r := by
  induction r with
  | zero => rfl
  | succ r ih => simp only [wantTo, List.length_append, ih, rowTo_len]; lia
theorem rowTo_get (r : Nat) : ∀ {k i : Nat}, i < k → (rowTo r k)[i]? = some (16 * (0 + (r : Int) * 1) + (1 + (i : Int) * 1))
  | k + 1, i, h => by
    simp only [rowTo]
    by_cases e : i < k
    · rw [List.getElem?_append_left (by rw [rowTo_len]; exact e)]
      exact rowTo_get r e
    · obtain rfl : i = k := by lia
      rw [List.getElem?_append_right (by rw [rowTo_len]; lia), rowTo_len, Nat.sub_self]
      rfl
theorem want_perm : (wantTo 16).Perm (sortedL 1) := by rw [← List.isPerm_iff]; decide +kernel
theorem sym1_perm {p : Int} (hp : p = 0 ∨ p = 1) : (symL 1 p).Perm (sortedL 1) := by rcases hp with rfl | rfl <;> (rw [← List.isPerm_iff]; decide +kernel)
theorem sorted1 : (sortedL 1).Pairwise (· ≤ ·) := by decide +kernel
theorem sorted1_len : (sortedL 1).length = 162 := by decide +kernel
noncomputable def restS (p : Int) : List Int := (sortedL 1).filter fun k => !((knownL 1 p).any fun x => x == k)
noncomputable def restCodes : List Int → Int → List (Int × Int × Int)
  | [], _ => []
  | s :: r, c => (s, c, 16) :: restCodes r (c + 1)
theorem rest_is {p : Int} (hp : p = 0 ∨ p = 1) : (tabN 1 p).drop (162 - (restS p).length) = restCodes (restS p) (65535 - ((restS p).length : Int)) ∧ 0 < (restS p).length ∧ (restS p).length ≤ 162 := by
  rcases hp with rfl | rfl <;> decide +kernel
theorem rest_mem : ∀ {rs : List Int} {c : Int} {i : Nat}, i < rs.length → (rs.getD i 0, c + (i : Int), 16) ∈ restCodes rs c
  | s :: r, c, 0, _ => by simp [restCodes]
  | s :: r, c, i + 1, h => by
    have ih := rest_mem (rs := r) (c := c + 1) (i := i) (by simpa using h)
    have e : c + 1 + (i : Int) = c + ((i + 1 : Nat) : Int) := by lia
    rw [e] at ih
    exact List.mem_cons_of_mem _ ih
/-- the codes of the rest, one by one -/
theorem rest_at {p : Int} (hp : p = 0 ∨ p = 1) {tl : List (Addr × Obj)} {kvs : List (Int × Value)} (hc : ∀ q ∈ tabN 1 p, CodeAt tl kvs q) :
    ∀ i, i < (restS p).length → ∀ G : Prop, (∀ a n t1 t2, valueAt kvs ((restS p).getD i 0) = some (.ref a) → (a, ({ cls := .type "tuple", data := .seq (List.toArray [.int (65535 - ((restS p).length : Int) + (i : Int)) t1, .int 16 t2]) n } : Obj)) ∈ tl → G) → G := by
  intro i hi G hG
  have h := rest_mem (c := 65535 - ((restS p).length : Int)) hi
  rw [← (rest_is hp).1] at h
  obtain ⟨a, n, t1, t2, e1, e2⟩ := hc _ (List.mem_of_mem_drop h)
  exact hG a n t1 t2 e1 e2
end Mine

end
section
namespace Mine
set_option maxHeartbeats 8000000 in
theorem law_known_C (w : World) (mean : ExcName → Option Value) (mg mb : Str → Option Value) (k p : Int) (tk ts : Tok) (hkk : k = 0 ∨ k = 1) (hpp : p = 0 ∨ p = 1) :
    Pur w mean mg mb 144 [.int k tk, .int p ts] 2 (fun _ => True) (fun r tl => ∃ t', r = .str (txt k p) t' ∧ tl = []) := by
  k_with_none
  k_with "all9" => with_reducible assumption
  k_with "units9" => (have hcL9 := cLine_is; (simp only [units_under_make, units_in1, units_deeper]); (try dsimp only [ktrTop]); omega)
  k_with "pu_rest" => ((case kA => exact rfl); (case kF => exact rfl); (case kK => assumption); (case k1 => k_asm); (case k2 => k_asm); (case k3 => k_asm); (case k5 => k_asm); (case k6 => k_is); (case k7 => k_is); (case k8 => ktr_room); (case k9 => exact BindsTo.of_eq rfl); (case c5 => decide); (case kB => exact locs rfl); (case c2 => exact rfl); (case c3 => exact rfl); (case c4 => exact rfl); k_whole; intro L' h' F' N' B' X' T'; (try dsimp only); (try k_fold))
  k_with "eval ListComp" => (k_here; (with_reducible show wpAny _ _ (eval (Expr.ListComp _ [⟨Expr.Name _ _, _, [], _⟩] _ _) _) _ _ _); k_dflt (refine' Mine.comp_U ?k0 ?k1 ?k2 ?k3 ?k4 ?k5 ?_ (by intro _; rfl); (case k0 => k_asm); (case k1 => with_unfolding_all rfl); (case k2 => decide); (case k3 => rfl); (case k4 => decide); (case k5 => rfl)))
  k_with "eval ListComp" => (k_here; (with_reducible show wpAny _ _ (eval (Expr.ListComp _ [⟨Expr.Name _ _, _, [_], _⟩] _ _) _) _ _ _); k_dflt (refine' Mine.comp_T ?k0 ?k1 ?k2 ?k3 ?k4 ?k5 ?_ (by intro _; rfl); (case k0 => k_asm); (case k1 => with_unfolding_all rfl); (case k2 => decide); (case k3 => rfl); (case k4 => decide); (case k5 => rfl)))
  k_with "call builtin:str.split" => (k_here; (with_reducible show wpAny _ _ (call (Value.builtin "str.split") [Value.str _ _, Value.str _ _]) _ _ _); k_dflt (refine' KSpl.split1 ?k1 ?k2 ?k3 ?_ ?k4; (case k1 => k_asm); (case k2 => k_asm); (case k3 => decide); (case k4 => (rw [PySem.sizeLine_eq]; omega))); intro D' l' h' k' e' a' F' N' l1; (try k_lt l1))
  k_with "call type:int" => (k_here; (with_reducible show wpAny _ _ (call (Value.type "int") [Value.str _ _, Value.int _ _]) _ _ _); k_dflt (first | (refine' Mine.call_intB (b := 16) (.inr rfl) ?k1 ?_; (case k1 => assumption)) | (refine' Mine.call_intB (b := 2) (.inl rfl) ?k1 ?_; (case k1 => assumption))))
  k_with "exec For Name Call cons nil" => (k_here; (rename Fr _ _ _ _ => lF'); (with_unfolding_all refine' Mine.For_lock lF' ?k1 ?k2 ?_ (by intro _; rfl) (by passes_own); (case k1 => exact rfl); (case k2 => exact rfl); k_whole))
  k_with "exec For Name Name cons nil" => (k_here; (rename Fr _ _ _ _ => lF'); (with_unfolding_all refine' Mine.For_lock lF' ?k1 ?k2 ?_ (by intro _; rfl) (by passes_own); (case k1 => exact rfl); (case k2 => exact rfl); k_whole))
  k_with "pu_call" => ((case B9 => k_asm); (case F9 => k_asm); (case X9 => k_asm); (case N9 => k_asm); (case T9 => k_asm); (case k9 => first | exact rfl | assumption); (case d9 => ktr_room); (case u9 => ktr_units))
  k_with "call type:tuple" => (k_here; (with_reducible show wpAny _ _ (call (Value.type "tuple") [Value.ref _]) _ _ _); k_dflt (refine' Mine.tuple_rangeK ?k0 ?k1 ?k2 ?k3 ?k4 ?k5 ?k6 ?_; (case k0 => rfl); (case k1 => k_asm); (case k2 => k_asm); (case k3 => assumption); (case k4 => decide); (case k5 => rfl); (case k6 => decide)); intro D' vs' h' tk' F' N' l1 i9; (try k_lt l1); (try k_sweep))
  k_with "call builtin:len" => (k_here; (with_reducible show wpAny _ _ (call (Value.builtin "len") [Value.ref _]) _ _ _); k_dflt (refine' Mine.len_tupK ?k1 ?k2 ?k3 ?_; (case k1 => first | exact Fr.tup (by k_asm) (by assumption) | exact News.isTup (by k_asm) (by k_mem)); (case k2 => assumption); (case k3 => omega)))
  k_with "call builtin:sum" => (k_here; (with_reducible show wpAny _ _ (call (Value.builtin "sum") [Value.ref _]) _ _ _); k_dflt (refine' Mine.sum_tupK ?k0 ?k1 ?k2 ?k3 ?k4 ?_; (case k0 => rfl); (case k1 => k_asm); (case k2 => k_asm); (case k3 => first | exact Fr.tup (by k_asm) (by assumption) | exact News.isTup (by k_asm) (by k_mem)); (case k4 => assumption)); intro h' tk' t' F' N'; (try k_sweep))
  k_with "call builtin:min" => (k_here; (with_reducible show wpAny _ _ (call (Value.builtin "min") [Value.ref _]) _ _ _); k_dflt (refine' Mine.min_tupK ?k0 ?k1 ?k2 ?k3 ?k4 ?k5 ?_; (case k0 => rfl); (case k1 => k_asm); (case k2 => k_asm); (case k3 => first | exact Fr.tup (by k_asm) (by assumption) | exact News.isTup (by k_asm) (by k_mem)); (case k4 => assumption); (case k5 => omega)); intro h' M' t' tk' F' N' a' b'; (try k_sweep))
  k_with "subscriptTail" => (k_here; (with_reducible show wpAny _ _ (subscriptTail _ _ (Value.ref _) (Value.int _ _)) _ _ _); k_dflt (refine' Mine.item_tupI ?k1 ?k2 ?k3 ?k4 ?k5 ?_ (by with_unfolding_all rfl); (case k1 => first | exact Fr.tup (by k_asm) (by assumption) | exact News.isTup (by k_asm) (by k_mem)); (case k2 => assumption); (case k3 => omega); (case k4 => omega); (case k5 => omega)); intro t')
  k_with "subscriptTail" => (k_here; (with_reducible show wpAny _ _ (subscriptTail _ _ (Value.ref _) (Value.int _ _)) _ _ _); k_dflt (refine' Mine.item_listI ?k1 ?k2 ?k3 ?k4 ?k5 ?_ (by with_unfolding_all rfl); (case k1 => exact News.isList (by k_asm) (by k_mem)); (case k2 => assumption); (case k3 => omega); (case k4 => omega); (case k5 => omega)); intro t')
  k_with "subscriptTail" => (k_here; (with_reducible show wpAny _ _ (subscriptTail _ _ (Value.ref _) (Value.int _ _)) _ _ _); k_dflt (refine' Mine.item_listS ?k1 ?k2 ?k3 ?k4 ?k5 ?_ (by with_unfolding_all rfl); (case k1 => exact News.isList (by k_asm) (by k_mem)); (case k2 => assumption); (case k3 => omega); (case k4 => omega); (case k5 => omega)); intro y' t' hy')
  w_top off
  unfold Pur
  k_fill
  intro dp un gd cn cs a ccd cl outer A₀ base h₀ L m s Q E B F X T hk hdp hun hp hret
  refine wpAny_call ?_
  k_dflt (refine' Mine.code_pure (K := Mine.hd.heap_39 w.params) (binds := [(Str.ofString "kind", .int k tk), (Str.ofString "slot", .int p ts)]) ?k1 ?k2 ?k3 ?k5 ?kA ?kF ?kK ?k6 ?k7 ?k8 ?k9 ?kB ?_ ?c2 ?c3 ?c4 ?c5)
  (case kA => exact rfl); (case kF => exact rfl); (case kK => assumption); (case k1 => k_asm); (case k2 => k_asm); (case k3 => k_asm); (case k5 => k_asm); (case k6 => k_is); (case k7 => k_is); (case k8 => ktr_room); (case k9 => exact BindsTo.of_eq rfl); (case c5 => decide); (case kB => exact locs rfl); (case c2 => exact rfl); (case c3 => exact rfl); (case c4 => exact rfl); k_whole; intro L' h' F' N' B' X' T'; (try dsimp only); (try k_fold)
  clear B F X T
  rcases hkk with rfl | rfl
  · rcases hpp with rfl | rfl
    · k_steps
      exact hret _ [] _ _ (Fr.keep (by k_asm)) (fun _ h => nomatch h) ⟨_, rfl, rfl⟩
    · k_steps
      exact hret _ [] _ _ (Fr.keep (by k_asm)) (fun _ h => nomatch h) ⟨_, rfl, rfl⟩
  · rcases hpp with rfl | rfl
    · k_steps
      exact hret _ [] _ _ (Fr.keep (by k_asm)) (fun _ h => nomatch h) ⟨_, rfl, rfl⟩
    · k_steps
      exact hret _ [] _ _ (Fr.keep (by k_asm)) (fun _ h => nomatch h) ⟨_, rfl, rfl⟩
end Mine

end
section
open PySem PySem.W PyProof.Rows PySem.Spec PySem.Calls PyProof.V
namespace Mine
theorem ne_two {a b : Addr} {o o2 : Obj} {l news : List (Addr × Obj)} (h : ∀ q ∈ (a, o) :: (b, o2) :: l, ∀ p ∈ news, p.1 ≠ q.1) : AllNe a news ∧ AllNe b news := ⟨allNe_of (h _ (.head _)), allNe_of (h _ (.tail _ (.head _)))⟩
theorem ne_rest {x y z : Addr × Obj} {tl news : List (Addr × Obj)} (h : ∀ q ∈ x :: y :: z :: tl, ∀ p ∈ news, p.1 ≠ q.1) : ∀ p ∈ news, ∀ q ∈ tl, q.1 ≠ p.1 := fun p hp q hq => Ne.symm (h q (.tail _ (.tail _ (.tail _ hq))) p hp)
theorem ne_three {a b c : Addr} {o o2 o3 : Obj} {l news : List (Addr × Obj)} (h : ∀ q ∈ (a, o) :: (b, o2) :: (c, o3) :: l, ∀ p ∈ news, p.1 ≠ q.1) : AllNe a news ∧ AllNe b news ∧ AllNe c news := ⟨allNe_of (h _ (.head _)), allNe_of (h _ (.tail _ (.head _))), allNe_of (h _ (.tail _ (.tail _ (.head _))))⟩
theorem news_turn {h₀ h : Heap} {L : Addr} {a b c : Addr × Obj} {tl r : List (Addr × Obj)} (N : News h₀ L h ((a :: b :: c :: tl) ++ r)) : News h₀ L h (a :: b :: c :: (r ++ tl)) := fun p hp => N p (by
  simp only [List.mem_cons, List.mem_append] at hp ⊢
  rcases hp with h | h | h | h | h
  all_goals simp only [h, true_or, or_true])
section
variable {w : World} {mean : ExcName → Option Value} {mg mb : Str → Option Value}
  {dp un : Nat} {gd : Option (List Code)} {cn : Str} {cs : Scope} {a : Addr} {ccd : Value} {cl : List (Str × Addr)} {outer : List Env} {A₀ : Around} {base h₀ : Heap} {L : Addr} {m : Str → Option Value} {news : List (Addr × Obj)} {s : Shared} {Q E : Value → Shared → Prop}
theorem std_use {k p : Int} {tk ts : Tok} (hkk : k = 0 ∨ k = 1) (hpp : p = 0 ∨ p = 1 ∨ p = 2 ∨ p = 3) (B : Below A₀ base outer h₀) (F : Fr h₀ L s.heap m) (X : (Mine.hd.heap_39 w.params).In h₀) (N : News h₀ L s.heap news) (T : Top Mine.hd.view_39 (looseW Mine.hd.view_39 []) mean mg mb h₀) (hk : cs.kind = .function)
    (hd : dp + 6 < recursionLimit) (hu : un + 16 * 6 < cLine)
    (ret : ∀ a y vs n nn h' tk', Fr h₀ L h' m → News h₀ L h' ((a, { cls := .type "tuple", data := .seq [.ref (cadr k p), .ref y].toArray nn }) :: (y, { cls := .type "tuple", data := .seq vs.toArray n }) :: news) → (AllNe a news ∧ AllNe y news) → IntsAre vs (symL k p) → Q (.ref a) { s with heap := h', toks := tk' }) :
    wpAny (model PySem.Challenge.rw_ok0131_01.row.prog w) (ktrTop dp un gd cn cs L a ccd cl outer) (call (.ref 44) [.int k tk, .int p ts]) Q E s :=
  pur_use (std_table_C w mean mg mb k p tk ts hkk hpp) B F X N T hk hd hu trivial fun r tl h' tk' F' N' ne ho => by
    obtain ⟨a9, y9, vs9, n9, nn9, rfl, rfl, i9⟩ := ho
    exact ret _ _ _ _ _ _ _ F' N' (ne_two ne) i9
theorem known_use {k p : Int} {tk ts : Tok} (hkk : k = 0 ∨ k = 1) (hpp : p = 0 ∨ p = 1) (B : Below A₀ base outer h₀) (F : Fr h₀ L s.heap m) (X : (Mine.hd.heap_39 w.params).In h₀) (N : News h₀ L s.heap news) (T : Top Mine.hd.view_39 (looseW Mine.hd.view_39 []) mean mg mb h₀) (hk : cs.kind = .function)
    (hd : dp + 2 < recursionLimit) (hu : un + 16 * 2 < cLine)
    (ret : ∀ t h' tk', Fr h₀ L h' m → News h₀ L h' news → Q (.str (txt k p) t) { s with heap := h', toks := tk' }) :
    wpAny (model PySem.Challenge.rw_ok0131_01.row.prog w) (ktrTop dp un gd cn cs L a ccd cl outer) (call (.ref 144) [.int k tk, .int p ts]) Q E s :=
  pur_use (law_known_C w mean mg mb k p tk ts hkk hpp) B F X N T hk hd hu trivial fun r tl h' tk' F' N' ne ho => by
    obtain ⟨t9, rfl, rfl⟩ := ho
    exact ret _ _ _ F' N'
theorem huff_use {k p : Int} (hkk : k = 0 ∨ k = 1) (hpp : p = 0 ∨ p = 1) {vc vy : List Value} {c y : Addr} (ic : IntsAre vc (cntL k p)) (iy : IntsAre vy (symL k p)) (B : Below A₀ base outer h₀) (F : Fr h₀ L s.heap m) (X : (Mine.hd.heap_39 w.params).In h₀) (N : News h₀ L s.heap news) (T : Top Mine.hd.view_39 (looseW Mine.hd.view_39 []) mean mg mb h₀) (hk : cs.kind = .function)
    (hd : dp + 5 < recursionLimit) (hu : un + 16 * 5 < cLine) (hc : IsTup s.heap c vc.toArray) (hy : IsTup s.heap y vy.toArray)
    (ret : ∀ (x dx dd : Addr) (t1 t2 t3 t4 : Tok) (rr : Addr) (o : Obj) (kvs : List (Int × Value)) (tl : List (Addr × Obj)) (od : Obj) h' tk', od = dictOf [{ hash := PyData.keyHash w.params (Str.ofString "counts"), key := .str (Str.ofString "counts") t1, val := .ref c },
      { hash := PyData.keyHash w.params (Str.ofString "symbols"), key := .str (Str.ofString "symbols") t2, val := .ref y },
      { hash := PyData.keyHash w.params (Str.ofString "rows"), key := .str (Str.ofString "rows") t3, val := .ref rr },
      { hash := PyData.keyHash w.params (Str.ofString "codes"), key := .str (Str.ofString "codes") t4, val := .ref dd }] 4 → Fr h₀ L h' m → News h₀ L h' ((x, instObj 133 dx) :: (dx, od) :: (dd, o) :: (news ++ tl)) →
      (AllNe x news ∧ AllNe dx news ∧ AllNe dd news) → (∀ p ∈ news, ∀ q ∈ tl, q.1 ≠ p.1) → (dd == sysModules) = false → o.IsDictOf (intKind PySem.Challenge.rw_ok0131_01.row.prog w) kvs → (∀ q ∈ tabN k p, CodeAt tl kvs q) → Q (.ref x) { s with heap := h', toks := tk' }) :
    wpAny (model PySem.Challenge.rw_ok0131_01.row.prog w) (ktrTop dp un gd cn cs L a ccd cl outer) (call (.ref 133) [.ref c, .ref y]) Q E s :=
  pur_use (huff_at w mean mg mb hkk hpp ic iy) B F X N T hk hd hu ⟨hc, hy⟩ fun r tl h' tk' F' N' ne ho => by
    obtain ⟨x9, dx9, dd9, t1, t2, t3, t4, rr9, o9, kvs9, tl9, rfl, rfl, lo9, id9, cq9⟩ := ho
    exact ret _ _ _ _ _ _ _ _ _ _ _ _ _ _ rfl F' (news_turn N') (ne_three ne) (ne_rest ne) lo9 id9 cq9
end
end Mine

end
section
namespace Mine
theorem news_four {h₀ h : Heap} {L : Addr} {news : List (Addr × Obj)} {b c d : Addr × Obj} (N : News h₀ L h news) (hb : b ∈ news) (hc : c ∈ news) (hd : d ∈ news) : News h₀ L h (b :: c :: d :: news) := fun p hp => N p (by
  simp only [List.mem_cons] at hp
  rcases hp with rfl | rfl | rfl | hp
  all_goals assumption)
theorem news_last {h₀ h : Heap} {L : Addr} {news : List (Addr × Obj)} {b c d : Addr × Obj} (N : News h₀ L h (b :: c :: d :: news)) : News h₀ L h news := fun p hp => N p (List.mem_cons_of_mem _ (List.mem_cons_of_mem _ (List.mem_cons_of_mem _ hp)))
/-- table.code, called through its bound method -/
theorem code_use (w : World) (mean : ExcName → Option Value) (mg mb : Str → Option Value) (x dx dd rr a c y : Addr) (o : Obj) (kvs : List (Int × Value)) (k : Int) (tk t1 t2 t3 t4 : Tok) :
    ∀ (dp un : Nat) (gd : Option (List Code)) (cn : Str) (cs : Scope) (a' : Addr) (ccd : Value) (cl : List (Str × Addr)) (outer : List Env) (A₀ : Around) (base h₀ : Heap) (L : Addr) (m : Str → Option Value) (news : List (Addr × Obj)) (s : Shared) (Q E : Value → Shared → Prop),
    Below A₀ base outer h₀ → Fr h₀ L s.heap m → (Mine.hd.heap_39 w.params).In h₀ → News h₀ L s.heap news → Top Mine.hd.view_39 (looseW Mine.hd.view_39 []) mean mg mb h₀ → cs.kind = .function → dp + 2 < recursionLimit → un + 16 * 2 < cLine →
    (x, instObj 133 dx) ∈ news → (dx, dictOf [{ hash := PyData.keyHash w.params (Str.ofString "counts"), key := .str (Str.ofString "counts") t1, val := .ref c },
      { hash := PyData.keyHash w.params (Str.ofString "symbols"), key := .str (Str.ofString "symbols") t2, val := .ref y },
      { hash := PyData.keyHash w.params (Str.ofString "rows"), key := .str (Str.ofString "rows") t3, val := .ref rr },
      { hash := PyData.keyHash w.params (Str.ofString "codes"), key := .str (Str.ofString "codes") t4, val := .ref dd }] 4) ∈ news → (dd, o) ∈ news →
    (dd == sysModules) = false → o.IsDictOf (intKind PySem.Challenge.rw_ok0131_01.row.prog w) kvs → valueAt kvs k = some (.ref a) →
    (∀ h' tk', Fr h₀ L h' m → News h₀ L h' news → Q (.ref a) { s with heap := h', toks := tk' }) →
    wpAny (model PySem.Challenge.rw_ok0131_01.row.prog w) (ktrTop dp un gd cn cs L a' ccd cl outer) (call (.ref 123) [.ref x, .int k tk]) Q E s := by
  k_with_none
  k_with "all9" => with_reducible assumption
  k_with "units9" => (have hcL9 := cLine_is; (simp only [units_under_make, units_in1, units_deeper]); (try dsimp only [ktrTop]); omega)
  k_with "pu_rest" => ((case kA => exact rfl); (case kF => exact rfl); (case kK => assumption); (case k1 => k_asm); (case k2 => k_asm); (case k3 => k_asm); (case k5 => k_asm); (case k6 => k_is); (case k7 => k_is); (case k8 => ktr_room); (case k9 => exact BindsTo.of_eq rfl); (case c5 => decide); (case kB => exact locs rfl); (case c2 => exact rfl); (case c3 => exact rfl); (case c4 => exact rfl); k_whole; intro L' h' F' N' B' X' T'; (try dsimp only); (try k_fold))
  k_with "eval ListComp" => (k_here; (with_reducible show wpAny _ _ (eval (Expr.ListComp _ [⟨Expr.Name _ _, _, [], _⟩] _ _) _) _ _ _); k_dflt (refine' Mine.comp_U ?k0 ?k1 ?k2 ?k3 ?k4 ?k5 ?_ (by intro _; rfl); (case k0 => k_asm); (case k1 => with_unfolding_all rfl); (case k2 => decide); (case k3 => rfl); (case k4 => decide); (case k5 => rfl)))
  k_with "eval ListComp" => (k_here; (with_reducible show wpAny _ _ (eval (Expr.ListComp _ [⟨Expr.Name _ _, _, [_], _⟩] _ _) _) _ _ _); k_dflt (refine' Mine.comp_T ?k0 ?k1 ?k2 ?k3 ?k4 ?k5 ?_ (by intro _; rfl); (case k0 => k_asm); (case k1 => with_unfolding_all rfl); (case k2 => decide); (case k3 => rfl); (case k4 => decide); (case k5 => rfl)))
  k_with "call builtin:str.split" => (k_here; (with_reducible show wpAny _ _ (call (Value.builtin "str.split") [Value.str _ _, Value.str _ _]) _ _ _); k_dflt (refine' KSpl.split1 ?k1 ?k2 ?k3 ?_ ?k4; (case k1 => k_asm); (case k2 => k_asm); (case k3 => decide); (case k4 => (rw [PySem.sizeLine_eq]; omega))); intro D' l' h' k' e' a' F' N' l1; (try k_lt l1))
  k_with "call type:int" => (k_here; (with_reducible show wpAny _ _ (call (Value.type "int") [Value.str _ _, Value.int _ _]) _ _ _); k_dflt (first | (refine' Mine.call_intB (b := 16) (.inr rfl) ?k1 ?_; (case k1 => assumption)) | (refine' Mine.call_intB (b := 2) (.inl rfl) ?k1 ?_; (case k1 => assumption))))
  k_with "exec For Name Call cons nil" => (k_here; (rename Fr _ _ _ _ => lF'); (with_unfolding_all refine' Mine.For_lock lF' ?k1 ?k2 ?_ (by intro _; rfl) (by passes_own); (case k1 => exact rfl); (case k2 => exact rfl); k_whole))
  k_with "exec For Name Name cons nil" => (k_here; (rename Fr _ _ _ _ => lF'); (with_unfolding_all refine' Mine.For_lock lF' ?k1 ?k2 ?_ (by intro _; rfl) (by passes_own); (case k1 => exact rfl); (case k2 => exact rfl); k_whole))
  k_with "pu_call" => ((case B9 => k_asm); (case F9 => k_asm); (case X9 => k_asm); (case N9 => k_asm); (case T9 => k_asm); (case k9 => first | exact rfl | assumption); (case d9 => ktr_room); (case u9 => ktr_units))
  k_with "call type:tuple" => (k_here; (with_reducible show wpAny _ _ (call (Value.type "tuple") [Value.ref _]) _ _ _); k_dflt (refine' Mine.tuple_rangeK ?k0 ?k1 ?k2 ?k3 ?k4 ?k5 ?k6 ?_; (case k0 => rfl); (case k1 => k_asm); (case k2 => k_asm); (case k3 => assumption); (case k4 => decide); (case k5 => rfl); (case k6 => decide)); intro D' vs' h' tk' F' N' l1 i9; (try k_lt l1); (try k_sweep))
  k_with "call builtin:len" => (k_here; (with_reducible show wpAny _ _ (call (Value.builtin "len") [Value.ref _]) _ _ _); k_dflt (refine' Mine.len_tupK ?k1 ?k2 ?k3 ?_; (case k1 => first | exact Fr.tup (by k_asm) (by assumption) | exact News.isTup (by k_asm) (by k_mem)); (case k2 => assumption); (case k3 => omega)))
  k_with "call builtin:sum" => (k_here; (with_reducible show wpAny _ _ (call (Value.builtin "sum") [Value.ref _]) _ _ _); k_dflt (refine' Mine.sum_tupK ?k0 ?k1 ?k2 ?k3 ?k4 ?_; (case k0 => rfl); (case k1 => k_asm); (case k2 => k_asm); (case k3 => first | exact Fr.tup (by k_asm) (by assumption) | exact News.isTup (by k_asm) (by k_mem)); (case k4 => assumption)); intro h' tk' t' F' N'; (try k_sweep))
  k_with "call builtin:min" => (k_here; (with_reducible show wpAny _ _ (call (Value.builtin "min") [Value.ref _]) _ _ _); k_dflt (refine' Mine.min_tupK ?k0 ?k1 ?k2 ?k3 ?k4 ?k5 ?_; (case k0 => rfl); (case k1 => k_asm); (case k2 => k_asm); (case k3 => first | exact Fr.tup (by k_asm) (by assumption) | exact News.isTup (by k_asm) (by k_mem)); (case k4 => assumption); (case k5 => omega)); intro h' M' t' tk' F' N' a' b'; (try k_sweep))
  k_with "subscriptTail" => (k_here; (with_reducible show wpAny _ _ (subscriptTail _ _ (Value.ref _) (Value.int _ _)) _ _ _); k_dflt (refine' Mine.item_tupI ?k1 ?k2 ?k3 ?k4 ?k5 ?_ (by with_unfolding_all rfl); (case k1 => first | exact Fr.tup (by k_asm) (by assumption) | exact News.isTup (by k_asm) (by k_mem)); (case k2 => assumption); (case k3 => omega); (case k4 => omega); (case k5 => omega)); intro t')
  k_with "subscriptTail" => (k_here; (with_reducible show wpAny _ _ (subscriptTail _ _ (Value.ref _) (Value.int _ _)) _ _ _); k_dflt (refine' Mine.item_listI ?k1 ?k2 ?k3 ?k4 ?k5 ?_ (by with_unfolding_all rfl); (case k1 => exact News.isList (by k_asm) (by k_mem)); (case k2 => assumption); (case k3 => omega); (case k4 => omega); (case k5 => omega)); intro t')
  k_with "subscriptTail" => (k_here; (with_reducible show wpAny _ _ (subscriptTail _ _ (Value.ref _) (Value.int _ _)) _ _ _); k_dflt (refine' Mine.item_listS ?k1 ?k2 ?k3 ?k4 ?k5 ?_ (by with_unfolding_all rfl); (case k1 => exact News.isList (by k_asm) (by k_mem)); (case k2 => assumption); (case k3 => omega); (case k4 => omega); (case k5 => omega)); intro y' t' hy')
  k_with "getMethod ref" => (k_here; (with_reducible show wpAny _ _ (getMethod (Value.ref _) (Str.ofString "get") _) _ _ _); k_dflt (refine' kdg_method (knd := PySem.intKind _ _) ?k1 ?k2 ?k3 ?_; (case k1 => k_asm); (case k2 => k_mem); (case k3 => assumption)))
  k_with "call builtin:dict.get" => (k_here; k_dflt (refine' kdg_get1 (knd := PySem.intKind _ _) ?k1 ?k2 ?k3 ?k4 (intKind_is _ _ _ _) (some _) ?k5 ?_; (case k1 => k_asm); (case k2 => k_mem); (case k3 => assumption); (case k4 => assumption); (case k5 => assumption)); (try dsimp only [Option.getD]))
  w_top off
  k_fill
  intro dp un gd cn cs a' ccd cl outer A₀ base h₀ L m news s Q E B F X N T hk hd hu hx hdx hdd lo hid hv ret
  have N2 := news_four N hx hdx hdd
  clear N hx hdx hdd
  refine wpAny_call ?_
  k_dflt (refine' code_def (K := Mine.hd.heap_39 w.params) (binds := [(Str.ofString "self", .ref x), (Str.ofString "symbol", .int k tk)]) B F X N2 T ?kA ?kF ?kK ?k6 ?k7 ?k8 ?k9 ?kB ?_ ?c2 ?c3 ?c4 ?c5)
  (case kA => exact rfl); (case kF => exact rfl); (case kK => assumption); (case k6 => k_is); (case k7 => k_is); (case k8 => ktr_room); (case k9 => exact BindsTo.of_eq rfl); (case c5 => decide); (case kB => exact locs rfl); (case c2 => exact rfl); (case c3 => exact rfl); (case c4 => exact rfl)
  intro g L' h1 FG F' N' B' X' T'
  (try dsimp only)
  clear F N2 B T X
  show wpAny _ _ _ _ _ _
  k_steps
  refine leaveK_ (by k_asm) (by k_asm) fun kF kN => ?_
  exact ret _ _ kF (news_last kN)
theorem meth_code_ (w : World) (x dx dd rr c y : Addr) (t1 t2 t3 t4 : Tok) :
    ∀ (A : Around) (h₀ : Heap) (L : Addr) (m : Str → Option Value) (news : List (Addr × Obj)) (pl : Sem Bool) (s : Shared) (Q : Value × List Value → Shared → Prop) (E : Value → Shared → Prop),
    Fr h₀ L s.heap m → (Mine.hd.heap_39 w.params).In h₀ → News h₀ L s.heap news → (x, instObj 133 dx) ∈ news → (dx, dictOf [{ hash := PyData.keyHash w.params (Str.ofString "counts"), key := .str (Str.ofString "counts") t1, val := .ref c },
      { hash := PyData.keyHash w.params (Str.ofString "symbols"), key := .str (Str.ofString "symbols") t2, val := .ref y },
      { hash := PyData.keyHash w.params (Str.ofString "rows"), key := .str (Str.ofString "rows") t3, val := .ref rr },
      { hash := PyData.keyHash w.params (Str.ofString "codes"), key := .str (Str.ofString "codes") t4, val := .ref dd }] 4) ∈ news → Q (.ref 123, [.ref x]) s →
    wpAny (model PySem.Challenge.rw_ok0131_01.row.prog w) A (getMethod (.ref x) (Str.ofString "code") pl) Q E s := by
  k_with_none
  k_with "all9" => with_reducible assumption
  k_with "units9" => (have hcL9 := cLine_is; (simp only [units_under_make, units_in1, units_deeper]); (try dsimp only [ktrTop]); omega)
  k_with "pu_rest" => ((case kA => exact rfl); (case kF => exact rfl); (case kK => assumption); (case k1 => k_asm); (case k2 => k_asm); (case k3 => k_asm); (case k5 => k_asm); (case k6 => k_is); (case k7 => k_is); (case k8 => ktr_room); (case k9 => exact BindsTo.of_eq rfl); (case c5 => decide); (case kB => exact locs rfl); (case c2 => exact rfl); (case c3 => exact rfl); (case c4 => exact rfl); k_whole; intro L' h' F' N' B' X' T'; (try dsimp only); (try k_fold))
  k_with "eval ListComp" => (k_here; (with_reducible show wpAny _ _ (eval (Expr.ListComp _ [⟨Expr.Name _ _, _, [], _⟩] _ _) _) _ _ _); k_dflt (refine' Mine.comp_U ?k0 ?k1 ?k2 ?k3 ?k4 ?k5 ?_ (by intro _; rfl); (case k0 => k_asm); (case k1 => with_unfolding_all rfl); (case k2 => decide); (case k3 => rfl); (case k4 => decide); (case k5 => rfl)))
  k_with "eval ListComp" => (k_here; (with_reducible show wpAny _ _ (eval (Expr.ListComp _ [⟨Expr.Name _ _, _, [_], _⟩] _ _) _) _ _ _); k_dflt (refine' Mine.comp_T ?k0 ?k1 ?k2 ?k3 ?k4 ?k5 ?_ (by intro _; rfl); (case k0 => k_asm); (case k1 => with_unfolding_all rfl); (case k2 => decide); (case k3 => rfl); (case k4 => decide); (case k5 => rfl)))
  k_with "call builtin:str.split" => (k_here; (with_reducible show wpAny _ _ (call (Value.builtin "str.split") [Value.str _ _, Value.str _ _]) _ _ _); k_dflt (refine' KSpl.split1 ?k1 ?k2 ?k3 ?_ ?k4; (case k1 => k_asm); (case k2 => k_asm); (case k3 => decide); (case k4 => (rw [PySem.sizeLine_eq]; omega))); intro D' l' h' k' e' a' F' N' l1; (try k_lt l1))
  k_with "call type:int" => (k_here; (with_reducible show wpAny _ _ (call (Value.type "int") [Value.str _ _, Value.int _ _]) _ _ _); k_dflt (first | (refine' Mine.call_intB (b := 16) (.inr rfl) ?k1 ?_; (case k1 => assumption)) | (refine' Mine.call_intB (b := 2) (.inl rfl) ?k1 ?_; (case k1 => assumption))))
  k_with "exec For Name Call cons nil" => (k_here; (rename Fr _ _ _ _ => lF'); (with_unfolding_all refine' Mine.For_lock lF' ?k1 ?k2 ?_ (by intro _; rfl) (by passes_own); (case k1 => exact rfl); (case k2 => exact rfl); k_whole))
  k_with "exec For Name Name cons nil" => (k_here; (rename Fr _ _ _ _ => lF'); (with_unfolding_all refine' Mine.For_lock lF' ?k1 ?k2 ?_ (by intro _; rfl) (by passes_own); (case k1 => exact rfl); (case k2 => exact rfl); k_whole))
  k_with "pu_call" => ((case B9 => k_asm); (case F9 => k_asm); (case X9 => k_asm); (case N9 => k_asm); (case T9 => k_asm); (case k9 => first | exact rfl | assumption); (case d9 => ktr_room); (case u9 => ktr_units))
  k_with "call type:tuple" => (k_here; (with_reducible show wpAny _ _ (call (Value.type "tuple") [Value.ref _]) _ _ _); k_dflt (refine' Mine.tuple_rangeK ?k0 ?k1 ?k2 ?k3 ?k4 ?k5 ?k6 ?_; (case k0 => rfl); (case k1 => k_asm); (case k2 => k_asm); (case k3 => assumption); (case k4 => decide); (case k5 => rfl); (case k6 => decide)); intro D' vs' h' tk' F' N' l1 i9; (try k_lt l1); (try k_sweep))
  k_with "call builtin:len" => (k_here; (with_reducible show wpAny _ _ (call (Value.builtin "len") [Value.ref _]) _ _ _); k_dflt (refine' Mine.len_tupK ?k1 ?k2 ?k3 ?_; (case k1 => first | exact Fr.tup (by k_asm) (by assumption) | exact News.isTup (by k_asm) (by k_mem)); (case k2 => assumption); (case k3 => omega)))
  k_with "call builtin:sum" => (k_here; (with_reducible show wpAny _ _ (call (Value.builtin "sum") [Value.ref _]) _ _ _); k_dflt (refine' Mine.sum_tupK ?k0 ?k1 ?k2 ?k3 ?k4 ?_; (case k0 => rfl); (case k1 => k_asm); (case k2 => k_asm); (case k3 => first | exact Fr.tup (by k_asm) (by assumption) | exact News.isTup (by k_asm) (by k_mem)); (case k4 => assumption)); intro h' tk' t' F' N'; (try k_sweep))
  k_with "call builtin:min" => (k_here; (with_reducible show wpAny _ _ (call (Value.builtin "min") [Value.ref _]) _ _ _); k_dflt (refine' Mine.min_tupK ?k0 ?k1 ?k2 ?k3 ?k4 ?k5 ?_; (case k0 => rfl); (case k1 => k_asm); (case k2 => k_asm); (case k3 => first | exact Fr.tup (by k_asm) (by assumption) | exact News.isTup (by k_asm) (by k_mem)); (case k4 => assumption); (case k5 => omega)); intro h' M' t' tk' F' N' a' b'; (try k_sweep))
  k_with "subscriptTail" => (k_here; (with_reducible show wpAny _ _ (subscriptTail _ _ (Value.ref _) (Value.int _ _)) _ _ _); k_dflt (refine' Mine.item_tupI ?k1 ?k2 ?k3 ?k4 ?k5 ?_ (by with_unfolding_all rfl); (case k1 => first | exact Fr.tup (by k_asm) (by assumption) | exact News.isTup (by k_asm) (by k_mem)); (case k2 => assumption); (case k3 => omega); (case k4 => omega); (case k5 => omega)); intro t')
  k_with "subscriptTail" => (k_here; (with_reducible show wpAny _ _ (subscriptTail _ _ (Value.ref _) (Value.int _ _)) _ _ _); k_dflt (refine' Mine.item_listI ?k1 ?k2 ?k3 ?k4 ?k5 ?_ (by with_unfolding_all rfl); (case k1 => exact News.isList (by k_asm) (by k_mem)); (case k2 => assumption); (case k3 => omega); (case k4 => omega); (case k5 => omega)); intro t')
  k_with "subscriptTail" => (k_here; (with_reducible show wpAny _ _ (subscriptTail _ _ (Value.ref _) (Value.int _ _)) _ _ _); k_dflt (refine' Mine.item_listS ?k1 ?k2 ?k3 ?k4 ?k5 ?_ (by with_unfolding_all rfl); (case k1 => exact News.isList (by k_asm) (by k_mem)); (case k2 => assumption); (case k3 => omega); (case k4 => omega); (case k5 => omega)); intro y' t' hy')
  k_with "getMethod ref" => (k_here; (with_reducible show wpAny _ _ (getMethod (Value.ref _) (Str.ofString "get") _) _ _ _); k_dflt (refine' kdg_method (knd := PySem.intKind _ _) ?k1 ?k2 ?k3 ?_; (case k1 => k_asm); (case k2 => k_mem); (case k3 => assumption)))
  k_with "call builtin:dict.get" => (k_here; k_dflt (refine' kdg_get1 (knd := PySem.intKind _ _) ?k1 ?k2 ?k3 ?k4 (intKind_is _ _ _ _) (some _) ?k5 ?_; (case k1 => k_asm); (case k2 => k_mem); (case k3 => assumption); (case k4 => assumption); (case k5 => assumption)); (try dsimp only [Option.getD]))
  w_top off
  k_fill
  intro A h₀ L m news pl s Q E F X N hx hdx h
  have N2 := news_four N hx hdx hdx
  clear N hx hdx
  show wpAny _ _ _ _ _ _
  walk1
  exact h
theorem meth_code {w : World} {x dx dd rr c y : Addr} {t1 t2 t3 t4 : Tok} {A : Around} {h₀ : Heap} {L : Addr} {m : Str → Option Value} {news : List (Addr × Obj)} {pl : Sem Bool} {s : Shared} {Q : Value × List Value → Shared → Prop} {E : Value → Shared → Prop} {od : Obj}
    (F : Fr h₀ L s.heap m) (X : (Mine.hd.heap_39 w.params).In h₀) (N : News h₀ L s.heap news) (hx : (x, instObj 133 dx) ∈ news) (hdx : (dx, od) ∈ news) (hod : od = dictOf [{ hash := PyData.keyHash w.params (Str.ofString "counts"), key := .str (Str.ofString "counts") t1, val := .ref c },
      { hash := PyData.keyHash w.params (Str.ofString "symbols"), key := .str (Str.ofString "symbols") t2, val := .ref y },
      { hash := PyData.keyHash w.params (Str.ofString "rows"), key := .str (Str.ofString "rows") t3, val := .ref rr },
      { hash := PyData.keyHash w.params (Str.ofString "codes"), key := .str (Str.ofString "codes") t4, val := .ref dd }] 4) (h : Q (.ref 123, [.ref x]) s) :
    wpAny (model PySem.Challenge.rw_ok0131_01.row.prog w) A (getMethod (.ref x) (Str.ofString "code") pl) Q E s :=
  meth_code_ w x dx dd rr c y t1 t2 t3 t4 A h₀ L m news pl s Q E F X N hx (hod ▸ hdx) h
theorem code_at {w : World} {mean : ExcName → Option Value} {mg mb : Str → Option Value} {x dx dd rr a c y : Addr} {o od : Obj} {kvs : List (Int × Value)} {k : Int} {tk t1 t2 t3 t4 : Tok}
    {dp un : Nat} {gd : Option (List Code)} {cn : Str} {cs : Scope} {a' : Addr} {ccd : Value} {cl : List (Str × Addr)} {outer : List Env} {A₀ : Around} {base h₀ : Heap} {L : Addr} {m : Str → Option Value} {news : List (Addr × Obj)} {s : Shared} {Q E : Value → Shared → Prop}
    (B : Below A₀ base outer h₀) (F : Fr h₀ L s.heap m) (X : (Mine.hd.heap_39 w.params).In h₀) (N : News h₀ L s.heap news) (T : Top Mine.hd.view_39 (looseW Mine.hd.view_39 []) mean mg mb h₀) (hk : cs.kind = .function) (hd : dp + 2 < recursionLimit) (hu : un + 16 * 2 < cLine)
    (hx : (x, instObj 133 dx) ∈ news) (hdx : (dx, od) ∈ news) (hod : od = dictOf [{ hash := PyData.keyHash w.params (Str.ofString "counts"), key := .str (Str.ofString "counts") t1, val := .ref c },
      { hash := PyData.keyHash w.params (Str.ofString "symbols"), key := .str (Str.ofString "symbols") t2, val := .ref y },
      { hash := PyData.keyHash w.params (Str.ofString "rows"), key := .str (Str.ofString "rows") t3, val := .ref rr },
      { hash := PyData.keyHash w.params (Str.ofString "codes"), key := .str (Str.ofString "codes") t4, val := .ref dd }] 4) (hdd : (dd, o) ∈ news)
    (lo : (dd == sysModules) = false) (hid : o.IsDictOf (intKind PySem.Challenge.rw_ok0131_01.row.prog w) kvs) (hv : valueAt kvs k = some (.ref a))
    (ret : ∀ h' tk', Fr h₀ L h' m → News h₀ L h' news → Q (.ref a) { s with heap := h', toks := tk' }) :
    wpAny (model PySem.Challenge.rw_ok0131_01.row.prog w) (ktrTop dp un gd cn cs L a' ccd cl outer) (call (.ref 123) [.ref x, .int k tk]) Q E s :=
  code_use w mean mg mb x dx dd rr a c y o kvs k tk t1 t2 t3 t4 dp un gd cn cs a' ccd cl outer A₀ base h₀ L m news s Q E B F X N T hk hd hu hx (hod ▸ hdx) hdd lo hid hv ret
end Mine

end
section
namespace Mine
theorem len_lit (l : List Char) (n : Nat) (h : l.length ≤ n) : (Str.ofString (String.ofList l)).length ≤ n := by
  rw [cps_of l _ rfl]
  show (l.map Char.toNat).toArray.size ≤ n
  rwa [List.size_toArray, List.length_map]
theorem txt_len {k p : Int} : (txt k p).length ≤ 1000 := by
  unfold txt
  split <;> split <;> exact len_lit _ 1000 (by decide +kernel)
theorem range_facts {k p : Int} (hk : k = 0 ∨ k = 1) (hp : p = 0 ∨ p = 1) : Builtin.Range.small 0 (((2 * (knownL k p).length : Nat) : Int)) 2 = true ∧ Builtin.Range.rangeSize 0 (((2 * (knownL k p).length : Nat) : Int)) 2 = (((knownL k p).length : Nat) : Int) := by
  rcases hk with rfl | rfl <;> rcases hp with rfl | rfl <;> exact ⟨by decide +kernel, by decide +kernel⟩
section
variable {prog : Program} {w : World} {A : Around} {E : Value → Shared → Prop} {s : Shared} {h₀ : Heap} {L : Addr} {m : Str → Option Value} {news : List (Addr × Obj)} {env : Env} {st : Stmt} {Q : Flow → Shared → Prop}
noncomputable def CellPost (h₀ : Heap) (L : Addr) (m : Str → Option Value) (news : List (Addr × Obj)) (s : Shared) (x : Str) (fl : Flow) (s' : Shared) : Prop :=
  fl = .next ∧ ∃ (c : Int) (t : Tok) (h' : Heap) (tk' : Nat), s' = { s with heap := h', toks := tk' } ∧ Fr h₀ L h' (fun y => if y = x then some (.int c t) else m y) ∧ News h₀ L h' news
noncomputable def TwoPost (h₀ : Heap) (L : Addr) (m : Str → Option Value) (news : List (Addr × Obj)) (s : Shared) (x y : Str) (fl : Flow) (s' : Shared) : Prop :=
  fl = .next ∧ ∃ (k p : Int) (t u : Tok) (h' : Heap) (tk' : Nat), (k = 0 ∨ k = 1) ∧ (p = 0 ∨ p = 1) ∧ s' = { s with heap := h', toks := tk' } ∧ Fr h₀ L h' (fun z => if z = y then some (.int p u) else if z = x then some (.int k t) else m z) ∧ News h₀ L h' news
theorem sym_two {k p q : Int} (hp : p = 1) (hq : q ≠ 0) : symL k q = symL k p ∧ cadr k q = cadr k p := by
  subst hp
  exact ⟨by simp [symL, hq], by simp [cadr, hq]⟩
theorem if_cell (F : Fr h₀ L s.heap m) (N : News h₀ L s.heap news) (x : Str)
    (h1 : wpAny (model prog w) A (exec st env) (CellPost h₀ L m news s x) E s)
    (h2 : ∀ (c : Int) (t : Tok) (h' : Heap) (tk' : Nat), Fr h₀ L h' (fun y => if y = x then some (.int c t) else m y) → News h₀ L h' news → Q .next { s with heap := h', toks := tk' }) : wpAny (model prog w) A (exec st env) Q E s :=
  wpAny_mono h1 (by rintro _ _ ⟨rfl, c, t, h', tk', rfl, F', N'⟩; exact h2 c t h' tk' F' N') fun _ _ e => e
theorem two_cells (F : Fr h₀ L s.heap m) (N : News h₀ L s.heap news) (x y : Str)
    (h1 : wpAny (model prog w) A (exec st env) (TwoPost h₀ L m news s x y) E s)
    (h2 : ∀ (m' : Str → Option Value) (k p : Int) (t u : Tok) (h' : Heap) (tk' : Nat), (k = 0 ∨ k = 1) → (p = 0 ∨ p = 1) → Fr h₀ L h' (fun z => if z = y then some (.int p u) else if z = x then some (.int k t) else m' z) → News h₀ L h' news → Q .next { s with heap := h', toks := tk' }) : wpAny (model prog w) A (exec st env) Q E s :=
  wpAny_mono h1 (by rintro _ _ ⟨rfl, k, p, t, u, h', tk', hk, hp, rfl, F', N'⟩; exact h2 m k p t u h' tk' hk hp F' N') fun _ _ e => e
theorem fr_same {h : Heap} {x : Str} {v : Option Value} {b : Str → Option Value} (F : Fr h₀ L h (fun y => if y = x then v else b y)) : Fr h₀ L h (fun y => if y = x then v else if y = x then v else b y) := by
  refine Eq.mp (congrArg (Fr _ _ _) (funext fun y => ?_)) F
  by_cases e : y = x
  · simp only [if_pos e]
  · simp only [if_neg e]
theorem all_at {ws : List Str} {ks : List Int} {T : List (Int × Int × Int)} {tl : List (Addr × Obj)} {kvs : List (Int × Value)}
    (h : ∀ i, i < ks.length → ∃ y z c, ws[2 * i]? = some y ∧ ws[2 * i + 1]? = some z ∧ rdB 16 y = ks[i]? ∧ rdB 2 z = some c ∧ (ks.getD i 0, c, (z.length : Int)) ∈ T) (hc : ∀ q ∈ T, CodeAt tl kvs q) :
    ∀ i, i < ks.length → ∀ G : Prop, (∀ y z c a n t1 t2, ws[2 * i]? = some y → ws[2 * i + 1]? = some z → rdB 16 y = ks[i]? → rdB 2 z = some c → valueAt kvs (ks.getD i 0) = some (.ref a) →
      (a, ({ cls := .type "tuple", data := .seq (List.toArray [.int c t1, .int (z.length : Int) t2]) n } : Obj)) ∈ tl → G) → G := by
  intro i hi G hG
  obtain ⟨y, z, c, e1, e2, e3, e4, e5⟩ := h i hi
  obtain ⟨a, n, t1, t2, e6, e7⟩ := hc _ e5
  exact hG y z c a n t1 t2 e1 e2 e3 e4 e6 e7
theorem known12 (p : Int) : (knownL 0 p).length = 12 := by
  unfold knownL
  rw [if_pos rfl]
  split <;> rfl
theorem sym0_sorted (p : Int) : (symL 0 p).Pairwise (· ≤ ·) := by
  have e : symL 0 p = [0, 1, 2, 3, 4, 5, 6, 7, 8, 9, 10, 11] := rfl
  rw [e]
  decide
structure RunSt where
  D : Addr
  vs : List Value
  n : Nat
  oc : Obj
theorem run_turn {h : Heap} {a b c d e j : Addr × Obj} {tl : List (Addr × Obj)} (N : News h₀ L h (a :: b :: c :: d :: e :: j :: tl)) : News h₀ L h (a :: j :: b :: c :: d :: e :: tl) := fun p hp => N p (by
  simp only [List.mem_cons] at hp ⊢
  rcases hp with h | h | h | h | h | h | h
  all_goals simp only [h, true_or, or_true])
theorem cells_first {h : Heap} {x dx dd a y : Addr × Obj} {r k w : Addr} {o1 o2 o3 : Obj} {tl : List (Addr × Obj)} (N : News h₀ L h (x :: dx :: dd :: a :: y :: (r, o1) :: (k, o2) :: (w, o3) :: tl))
    (nA : (r ≠ a.1 ∧ k ≠ a.1 ∧ w ≠ a.1) ∧ r ≠ y.1 ∧ k ≠ y.1 ∧ w ≠ y.1) (nx : r ≠ x.1 ∧ k ≠ x.1 ∧ w ≠ x.1) (ndx : r ≠ dx.1 ∧ k ≠ dx.1 ∧ w ≠ dx.1) (ndd : r ≠ dd.1 ∧ k ≠ dd.1 ∧ w ≠ dd.1)
    (w3 : ∀ q ∈ tl, q.1 ≠ r) (w2 : ∀ q ∈ tl, q.1 ≠ k) (w1 : ∀ q ∈ tl, q.1 ≠ w) (kr : k ≠ r) (kw : k ≠ w) (rw : r ≠ w) :
    News h₀ L h ((w, o3) :: (k, o2) :: (r, o1) :: x :: dx :: dd :: a :: y :: tl) ∧ (∀ q ∈ (k, o2) :: (r, o1) :: x :: dx :: dd :: a :: y :: tl, q.1 ≠ w) ∧ (∀ q ∈ (r, o1) :: x :: dx :: dd :: a :: y :: tl, q.1 ≠ k) ∧ (∀ q ∈ x :: dx :: dd :: a :: y :: tl, q.1 ≠ r) := by
  have five : ∀ {z : Addr}, z ≠ x.1 → z ≠ dx.1 → z ≠ dd.1 → z ≠ a.1 → z ≠ y.1 → (∀ q ∈ tl, q.1 ≠ z) → ∀ q ∈ x :: dx :: dd :: a :: y :: tl, q.1 ≠ z := fun h1 h2 h3 h4 h5 h6 =>
    List.forall_mem_cons.mpr ⟨Ne.symm h1, List.forall_mem_cons.mpr ⟨Ne.symm h2, List.forall_mem_cons.mpr ⟨Ne.symm h3, List.forall_mem_cons.mpr ⟨Ne.symm h4, List.forall_mem_cons.mpr ⟨Ne.symm h5, h6⟩⟩⟩⟩⟩
  refine ⟨fun p hp => N p ?_, List.forall_mem_cons.mpr ⟨kw, List.forall_mem_cons.mpr ⟨rw, five nx.2.2 ndx.2.2 ndd.2.2 nA.1.2.2 nA.2.2.2 w1⟩⟩, List.forall_mem_cons.mpr ⟨Ne.symm kr, five nx.2.1 ndx.2.1 ndd.2.1 nA.1.2.1 nA.2.2.1 w2⟩, five nx.1 ndx.1 ndd.1 nA.1.1 nA.2.1 w3⟩
  simp only [List.mem_cons] at hp ⊢
  rcases hp with h | h | h | h | h | h | h | h | h
  all_goals simp only [h, true_or, or_true]
theorem run_parts {h : Heap} {a : Addr × Obj} {r : Addr} {o : Obj} {tl : List (Addr × Obj)} (N : News h₀ L h (a :: (r, o) :: tl)) : ∃ r' tl', r' = r ∧ tl' = tl ∧ News h₀ L h (a :: (r', o) :: tl') := ⟨_, _, rfl, rfl, N⟩
theorem mod_two (a : Int) : a.fmod 2 = 0 ∨ a.fmod 2 = 1 := by
  rw [Int.fmod_eq_emod_of_nonneg _ (by decide)]
  exact Int.emod_two_eq a
end
end Mine
set_option maxHeartbeats 8000000 in
theorem Mine.tt : PySem.Challenge.rw_ok0131_01.Holds := Mine.hd (by
  k_with_none
  k_with "all9" => with_reducible assumption
  k_with "units9" => (have hcL9 := cLine_is; (simp only [units_under_make, units_in1, units_deeper]); (try dsimp only [ktrTop]); omega)
  k_with "pu_rest" => ((case kA => exact rfl); (case kF => exact rfl); (case kK => assumption); (case k1 => k_asm); (case k2 => k_asm); (case k3 => k_asm); (case k5 => k_asm); (case k6 => k_is); (case k7 => k_is); (case k8 => ktr_room); (case k9 => exact BindsTo.of_eq rfl); (case c5 => decide); (case kB => exact locs rfl); (case c2 => exact rfl); (case c3 => exact rfl); (case c4 => exact rfl); k_whole; intro L' h' F' N' B' X' T'; (try dsimp only); (try k_fold))
  k_with "eval ListComp" => (k_here; (with_reducible show wpAny _ _ (eval (Expr.ListComp _ [⟨Expr.Name _ _, _, [], _⟩] _ _) _) _ _ _); k_dflt (refine' Mine.comp_U ?k0 ?k1 ?k2 ?k3 ?k4 ?k5 ?_ (by intro _; rfl); (case k0 => k_asm); (case k1 => with_unfolding_all rfl); (case k2 => decide); (case k3 => rfl); (case k4 => decide); (case k5 => rfl)))
  k_with "eval ListComp" => (k_here; (with_reducible show wpAny _ _ (eval (Expr.ListComp _ [⟨Expr.Name _ _, _, [_], _⟩] _ _) _) _ _ _); k_dflt (refine' Mine.comp_T ?k0 ?k1 ?k2 ?k3 ?k4 ?k5 ?_ (by intro _; rfl); (case k0 => k_asm); (case k1 => with_unfolding_all rfl); (case k2 => decide); (case k3 => rfl); (case k4 => decide); (case k5 => rfl)))
  k_with "call builtin:str.split" => (k_here; (with_reducible show wpAny _ _ (call (Value.builtin "str.split") [Value.str _ _, Value.str _ _]) _ _ _); k_dflt (refine' KSpl.split1 ?k1 ?k2 ?k3 ?_ ?k4; (case k1 => k_asm); (case k2 => k_asm); (case k3 => decide); (case k4 => (rw [PySem.sizeLine_eq]; omega))); intro D' l' h' k' e' a' F' N' l1; (try k_lt l1))
  k_with "call type:int" => (k_here; (with_reducible show wpAny _ _ (call (Value.type "int") [Value.str _ _, Value.int _ _]) _ _ _); k_dflt (first | (refine' Mine.call_intB (b := 16) (.inr rfl) ?k1 ?_; (case k1 => assumption)) | (refine' Mine.call_intB (b := 2) (.inl rfl) ?k1 ?_; (case k1 => assumption))))
  k_with "exec For Name Call cons nil" => (k_here; (rename Fr _ _ _ _ => lF'); (with_unfolding_all refine' Mine.For_lock lF' ?k1 ?k2 ?_ (by intro _; rfl) (by passes_own); (case k1 => exact rfl); (case k2 => exact rfl); k_whole))
  k_with "exec For Name Name cons nil" => (k_here; (rename Fr _ _ _ _ => lF'); (with_unfolding_all refine' Mine.For_lock lF' ?k1 ?k2 ?_ (by intro _; rfl) (by passes_own); (case k1 => exact rfl); (case k2 => exact rfl); k_whole))
  k_with "pu_call" => ((case B9 => k_asm); (case F9 => k_asm); (case X9 => k_asm); (case N9 => k_asm); (case T9 => k_asm); (case k9 => first | exact rfl | assumption); (case d9 => ktr_room); (case u9 => ktr_units))
  k_with "call type:tuple" => (k_here; (with_reducible show wpAny _ _ (call (Value.type "tuple") [Value.ref _]) _ _ _); k_dflt (refine' Mine.tuple_rangeK ?k0 ?k1 ?k2 ?k3 ?k4 ?k5 ?k6 ?_; (case k0 => rfl); (case k1 => k_asm); (case k2 => k_asm); (case k3 => assumption); (case k4 => decide); (case k5 => rfl); (case k6 => decide)); intro D' vs' h' tk' F' N' l1 i9; (try k_lt l1); (try k_sweep))
  k_with "call builtin:len" => (k_here; (with_reducible show wpAny _ _ (call (Value.builtin "len") [Value.ref _]) _ _ _); k_dflt (refine' Mine.len_tupK ?k1 ?k2 ?k3 ?_; (case k1 => first | exact Fr.tup (by k_asm) (by assumption) | exact News.isTup (by k_asm) (by k_mem)); (case k2 => assumption); (case k3 => omega)))
  k_with "call builtin:sum" => (k_here; (with_reducible show wpAny _ _ (call (Value.builtin "sum") [Value.ref _]) _ _ _); k_dflt (refine' Mine.sum_tupK ?k0 ?k1 ?k2 ?k3 ?k4 ?_; (case k0 => rfl); (case k1 => k_asm); (case k2 => k_asm); (case k3 => first | exact Fr.tup (by k_asm) (by assumption) | exact News.isTup (by k_asm) (by k_mem)); (case k4 => assumption)); intro h' tk' t' F' N'; (try k_sweep))
  k_with "call builtin:min" => (k_here; (with_reducible show wpAny _ _ (call (Value.builtin "min") [Value.ref _]) _ _ _); k_dflt (refine' Mine.min_tupK ?k0 ?k1 ?k2 ?k3 ?k4 ?k5 ?_; (case k0 => rfl); (case k1 => k_asm); (case k2 => k_asm); (case k3 => first | exact Fr.tup (by k_asm) (by assumption) | exact News.isTup (by k_asm) (by k_mem)); (case k4 => assumption); (case k5 => omega)); intro h' M' t' tk' F' N' a' b'; (try k_sweep))
  k_with "subscriptTail" => (k_here; (with_reducible show wpAny _ _ (subscriptTail _ _ (Value.ref _) (Value.int _ _)) _ _ _); k_dflt (refine' Mine.item_tupI ?k1 ?k2 ?k3 ?k4 ?k5 ?_ (by with_unfolding_all rfl); (case k1 => first | exact Fr.tup (by k_asm) (by assumption) | exact News.isTup (by k_asm) (by k_mem)); (case k2 => assumption); (case k3 => omega); (case k4 => omega); (case k5 => omega)); intro t')
  k_with "subscriptTail" => (k_here; (with_reducible show wpAny _ _ (subscriptTail _ _ (Value.ref _) (Value.int _ _)) _ _ _); k_dflt (refine' Mine.item_listI ?k1 ?k2 ?k3 ?k4 ?k5 ?_ (by with_unfolding_all rfl); (case k1 => exact News.isList (by k_asm) (by k_mem)); (case k2 => assumption); (case k3 => omega); (case k4 => omega); (case k5 => omega)); intro t')
  k_with "subscriptTail" => (k_here; (with_reducible show wpAny _ _ (subscriptTail _ _ (Value.ref _) (Value.int _ _)) _ _ _); k_dflt (refine' Mine.item_listS ?k1 ?k2 ?k3 ?k4 ?k5 ?_ (by with_unfolding_all rfl); (case k1 => exact News.isList (by k_asm) (by k_mem)); (case k2 => assumption); (case k3 => omega); (case k4 => omega); (case k5 => omega)); intro y' t' hy')
  k_with "call ref" => (k_here; (with_reducible show wpAny _ _ (call (Value.ref 44) _) _ _ _); k_dflt (refine' Mine.std_use ?hk9 ?hp9 ?B9 ?F9 ?X9 ?N9 ?T9 ?k9 ?d9 ?u9 ?_; (case hk9 => assumption); (case hp9 => first | assumption | decide); walk_at "pu_call"); intro a9 y9 vs9 n9 nn9 h' tk' F' N' ne' i9; (simp only [Mine.AllNe, and_true] at ne'); (try k_sweep))
  k_with "call ref" => (k_here; (with_reducible show wpAny _ _ (call (Value.ref 133) _) _ _ _); refine Mine.lock_in ?_)
  k_with "call ref" => (k_here; (with_reducible show wpAny _ _ (call (Value.ref 144) _) _ _ _); k_dflt (refine' Mine.known_use ?hk9 ?hp9 ?B9 ?F9 ?X9 ?N9 ?T9 ?k9 ?d9 ?u9 ?_; (case hk9 => assumption); (case hp9 => assumption); walk_at "pu_call"); intro t9 h' tk' F' N'; (try k_sweep))
  k_with "exec If" => (k_here; (with_reducible show wpAny _ _ (exec (Stmt.If _ [Stmt.Assign _ _ _] [] _) _) _ _ _); (fail_if_success (have f9 : Mine.Flag := (by assumption))); refine Mine.lock_in ?_)
  k_with "exec If" => (k_here; (with_reducible show wpAny _ _ (exec (Stmt.If (Expr.BoolOp _ _ _) [Stmt.Return _ _] [] _) _) _ _ _); (fail_if_success (have f9 : Mine.Flag := (by assumption))); refine Mine.lock_in ?_)
  k_with "compareOp NotEq ref ref" => (k_here; refine Mine.lock_in ?_)
  k_with "exec Assign" => (k_here; (with_reducible show wpAny _ _ (exec (Stmt.Assign [Expr.Tuple _ _ _] _ _) _) _ _ _); (fail_if_success (have f9 : Mine.Flag := (by assumption))); refine Mine.lock_in ?_)
  k_with "call builtin:str.split" => (k_here; (with_reducible show wpAny _ _ (call (Value.builtin "str.split") [Value.str _ _, Value.str _ _]) _ _ _); k_dflt (refine' KSpl.split1 ?k1 ?k2 ?k3 ?_ ?k4; (case k1 => k_asm); (case k2 => k_asm); (case k3 => decide); (case k4 => (rw [PySem.sizeLine_eq]; omega))); intro D' l' h' k' e' a' F' N' l1; (try k_lt l1); (rename Txt.split _ _ = _ => q9); rw [e', q9] at a'; clear e')
  k_with "call builtin:len" => (k_here; (with_reducible show wpAny _ _ (call (Value.builtin "len") [Value.ref _]) _ _ _); k_dflt (refine' Mine.len_listI ?k1 ?k2 ?k3 ?_; (case k1 => exact News.isList (by k_asm) (by k_mem)); (case k2 => assumption); (case k3 => omega)))
  k_with "call builtin:len" => (k_here; (with_reducible show wpAny _ _ (call (Value.builtin "len") [Value.ref _]) _ _ _); (rename StrsAre _ _ => hS9); k_dflt (refine' len_strsA ?k1 hS9 ?k2 ?_; (case k1 => exact News.isList (by k_asm) (by k_mem)); (case k2 => omega)))
  k_with "subscriptTail" => (k_here; (with_reducible show wpAny _ _ (subscriptTail _ _ (Value.ref _) (Value.int _ _)) _ _ _); (rename StrsAre _ _ => hS9); k_dflt (refine' Mine.item_strAt ?k1 hS9 ?k3 ?k4 ?k5 ?k6 ?_ (by with_unfolding_all rfl); (case k1 => exact News.isList (by k_asm) (by k_mem)); (case k3 => omega); (case k4 => omega); (case k5 => omega); (case k6 => assumption)); intro t')
  k_with "subscriptTail Name Name ref int" => (k_here; (with_reducible show wpAny _ _ (subscriptTail _ _ (Value.ref _) (Value.int _ _)) _ _ _); k_dflt (refine' Mine.item_intAt ?k1 ?k2 ?k3 ?k5 ?k6 ?_ (by with_unfolding_all rfl); (case k1 => exact News.isList (by k_asm) (by k_mem)); (case k2 => assumption); (case k3 => omega); (case k5 => omega); (case k6 => assumption)); intro t')
  k_with "getMethod ref" => (k_here; (with_reducible show wpAny _ _ (getMethod (Value.ref _) (Str.ofString "code") _) _ _ _); k_dflt (refine' Mine.meth_code ?m1 ?m2 ?m3 ?m4 ?m5 ?m6 ?_; (case m1 => k_asm); (case m2 => k_asm); (case m3 => k_asm); (case m4 => k_mem); (case m5 => k_mem); (case m6 => assumption)))
  k_with "call ref" => (k_here; (with_reducible show wpAny _ _ (call (Value.ref 123) _) _ _ _); k_dflt (refine' Mine.code_at ?B9 ?F9 ?X9 ?N9 ?T9 ?k9 ?d9 ?u9 ?q2 ?q3 ?q8 ?q4 ?q5 ?q6 ?q7 ?_; walk_at "pu_call"; (case q2 => k_mem); (case q3 => k_mem); (case q8 => assumption); (case q4 => k_mem); (case q5 => assumption); (case q6 => assumption); (case q7 => assumption)); intro h' tk' F' N'; (try k_sweep))
  k_with "call builtin:sorted" => (k_here; refine Mine.lock_in ?_)
  k_with "compareOp Eq ref ref" => (k_here; refine Mine.lock_in ?_)
  k_with "exec For Name Call cons nil" => (k_here; (with_reducible show wpAny _ _ (exec (Stmt.For _ _ [Stmt.Assign _ (Expr.BinOp _ _ _ _) _] _ _) _) _ _ _); (rename Fr _ _ _ _ => lF'); (with_unfolding_all refine' Mine.For_lockT lF' ?_ (by intro _; rfl) (by passes_own)); k_whole)
  k_with "binaryOp Add ref ref" => (k_here; (with_reducible show wpAny _ _ (binaryOp _ (Value.ref _) (Value.ref _)) _ _ _); k_dflt (refine' kmk_add_ints ?F ?N ?a ?b ?i ?j ?_ ?z; (case F => k_asm); (case N => k_asm); (case a => exact News.isList (by k_asm) (by k_mem)); (case b => exact News.isList (by k_asm) (by k_mem)); (case i => assumption); (case j => assumption); (case z => (simp only [PySem.sizeLine_eq]; omega))); intro D' ws' h' F' N' l1 hI'; (try k_lt l1))
  k_go0
  show wpAny _ _ _ _ _ _
  k_fold
  k_steps
  unfold Mine.Lock
  refine Mine.if_cell (by k_asm) (by k_asm) (Str.ofString "cell") ?_ ?_
  · --SKIP
    have fl : Mine.Flag := trivial
    show wpAny _ _ _ _ _ _
    k_steps
    all_goals (
      rename Fr _ _ _ _ => F2
      rename News _ _ _ _ => N2
      first
        | exact ⟨rfl, _, _, _, _, rfl, F2, N2⟩
        | exact ⟨rfl, _, _, _, _, rfl, Mine.fr_same F2, N2⟩)
    --END
  intro c t1 h1 tk1 F1 N1
  show wpAny _ _ _ _ _ _
  k_steps
  unfold Mine.Lock
  refine Mine.two_cells F1 N1 (Str.ofString "slot") (Str.ofString "kind") ?_ ?_
  · --SKIP
    have fl : Mine.Flag := trivial
    show wpAny _ _ _ _ _ _
    k_steps
    all_goals (
      rename Fr _ _ _ _ => F2
      rename News _ _ _ _ => N2
      exact ⟨rfl, _, _, _, _, _, _, Mine.mod_two _, Mine.mod_two _, rfl, F2, fun p hp => N2 p (List.mem_cons_of_mem _ hp)⟩)
    --END
  intro mB p k u2 t2 h2 tk2 hp hk F2 N2
  clear F1 N1
  have hp4 : p = 0 ∨ p = 1 ∨ p = 2 ∨ p = 3 := Or.imp_right Or.inl hp
  obtain ⟨cs, hcs, ics⟩ := Mine.cnt_at (by assumption) hk hp
  show wpAny _ _ _ _ _ _
  k_steps
  unfold Mine.Lock
  rename IsTup _ _ _ => hcs'
  rename IntsAre _ (Mine.symL k p) => iy'
  k_dflt (refine' Mine.huff_use hk hp ics iy' ?B9 ?F9 ?X9 ?N9 ?T9 ?k9 ?d9 ?u9 ?p8 ?p9 ?_)
  case B9 => k_asm
  case F9 => k_asm
  case X9 => k_asm
  case N9 => k_asm
  case T9 => k_asm
  case k9 => exact rfl
  case d9 => ktr_room
  case u9 => ktr_units
  case p8 => exact Fr.tup (by k_asm) (by assumption)
  case p9 => exact News.isTup (by k_asm) (by k_mem)
  intro x9 dx9 dd9 t1 t2 t3 t4 rr9 o9 kvs9 tl9 od h' tk' hod F' N5 ne' tlo lo9 id9 cq9
  simp only [List.forall_mem_cons, List.not_mem_nil, false_implies, implies_true, and_true] at tlo
  have w3 := tlo.2.2.1
  have w2 := tlo.2.2.2.1
  have w1 := tlo.2.2.2.2
  clear tlo
  simp only [Mine.AllNe, and_true] at ne'
  have htl := Mine.txt_len (k := k) (p := p)
  simp only [List.cons_append, List.nil_append] at N5
  rename (_ ≠ _ ∧ _ ≠ _ ∧ _ ≠ _) ∧ _ ≠ _ ∧ _ ≠ _ ∧ _ ≠ _ => neA
  obtain ⟨N6, hcW, hcK, hcR⟩ := Mine.cells_first N5 neA ne'.1.2.2 ne'.2.1.2.2 ne'.2.2.2.2 w3 w2 w1 (Nat.ne_of_lt (Nat.lt_succ_self _)) (Nat.ne_of_gt (Nat.lt_succ_self _)) (Nat.ne_of_gt (Nat.lt_succ_of_lt (Nat.lt_succ_self _)))
  clear N5 neA ne' w1 w2 w3
  k_steps
  unfold Mine.Lock
  refine Mine.if_quiet (by k_asm) (by k_asm) ?_ ?_
  · --SKIP
    have fl : Mine.Flag := trivial
    have q2 := fun h => Mine.sym_two (k := k) (p := p) (q := 2) h (by decide)
    have q3 := fun h => Mine.sym_two (k := k) (p := p) (q := 3) h (by decide)
    show wpAny _ _ _ _ _ _
    k_steps
    · unfold Mine.Lock
      rename p = 1 => hp1
      rename IntsAre _ (Mine.symL k 2) => i2
      rename IntsAre _ (Mine.symL k p) => i1
      rw [(q2 hp1).1] at i2
      have hcs2 := hcs'
      rw [← (q2 hp1).2] at hcs2
      refine Mine.ne_told (News.isTup (by k_asm) (by k_mem)) (Fr.tup (by k_asm) hcs2) (News.isTup (by k_asm) (by k_mem)) ics i2 (News.isTup (by k_asm) (by k_mem)) (Fr.tup (by k_asm) hcs') (News.isTup (by k_asm) (by k_mem)) ics i1 (by ktr_units) ?_
      k_steps
      unfold Mine.Lock
      rename IntsAre _ (Mine.symL k 3) => i3
      rw [(q3 hp1).1] at i3
      have hcs3 := hcs'
      rw [← (q3 hp1).2] at hcs3
      refine Mine.ne_told (News.isTup (by k_asm) (by k_mem)) (Fr.tup (by k_asm) hcs3) (News.isTup (by k_asm) (by k_mem)) ics i3 (News.isTup (by k_asm) (by k_mem)) (Fr.tup (by k_asm) hcs') (News.isTup (by k_asm) (by k_mem)) ics i1 (by ktr_units) ?_
      k_steps
      rename Fr _ _ _ _ => F7
      rename News _ _ _ _ => N7
      exact ⟨rfl, _, _, rfl, F7, fun p hp => N7 p (by revert p hp; kcf_all)⟩
    · rename Fr _ _ _ _ => F7
      rename News _ _ _ _ => N7
      exact ⟨rfl, _, _, rfl, F7, N7⟩
    --END
  intro h6 tk6 F6 N6
  obtain ⟨ws, hws⟩ : ∃ ws, Txt.split (Mine.txt k p) (Str.ofString " ") = ws := ⟨_, rfl⟩
  obtain ⟨hwl, hkn⟩ := Mine.pairs_at (Mine.pairs_ok hk hp)
  have hn64 := Mine.known_len (k := k) (p := p)
  have hrf := Mine.range_facts hk hp
  rw [hws] at hwl hkn
  obtain ⟨ks, hks⟩ : ∃ ks, Mine.knownL k p = ks := ⟨_, rfl⟩
  rw [hks] at hwl hn64 hrf hkn
  rw [← hwl] at hrf
  have hall := Mine.all_at hkn cq9
  clear hkn
  clear F2 N2
  show wpAny _ _ _ _ _ _
  k_steps
  rename StrsAre _ _ => al
  rename IsRange _ _ _ _ _ _ _ _ => hr
  refine Mine.at_range (n := ks.length) rfl (by k_asm) (by k_asm) hr hrf.1 hrf.2 (by rw [PySem.sizeLine_eq]; omega) fun g => ?_
  refine Mine.rest_ints (ks := ks) rfl (fun i v I oI C oC D' m₂ ys h2 tk2 E2 hi hv hC hm F2 N2 off ne => ?_) fun ys hys => ?_
  · --SKIP
    obtain ⟨tv, rfl⟩ := hv
    refine hall i hi _ fun y z cc a n t1 t2 e1 e2 e3 e4 e5 e6 => ?_
    rw [Mine.get_of hi] at e3
    have e7 : Mine.rdB 16 (ws.getD (0 + (i : Int) * 2).toNat Str.empty) = some (ks.getD i 0) := by
      rw [List.getD_eq_getElem?_getD, show (0 + (i : Int) * 2).toNat = 2 * i by omega, e1]
      exact e3
    clear e1 e2 e3 e4 e5 e6
    have hb : 0 + (i : Int) * 2 < (ws.length : Int) := by omega
    k_steps
    refine CompEnd.intro (by assumption) (by assumption) _ (fun _ h => h) off ?_ ?_
    · exact trivial
    · exact ⟨rfl, _, _, Mine.get_of hi, rfl⟩
    --END
  intro D2 h3 tk3 F3 N3 o1
  simp only [LCg.Off1] at o1
  obtain ⟨-, o1w, o1k, o1r, -⟩ := o1
  k_steps
  unfold Mine.Lock
  clear hr
  rename IsRange _ _ _ _ _ _ _ _ => hr
  rename Fr _ _ _ _ => F6
  rename News _ _ _ _ => N6
  refine Mine.lp_range (σ := Unit) (n := ks.length) (fun _ => _) (fun _ => []) [Str.ofString "text"] (fun _ _ => True) () rfl hr (small_one (by decide) (by decide) (by omega) (by omega)) (by rw [rangeSize_nat]; omega) F6 N6 (fun _ h => h) (fun _ h => nomatch h) trivial ?_ ?_
  · --SKIP
    rintro ⟨⟩ i t u h7 tk7 own hi hoff _ F7 N7
    clear F6 N6
    try dsimp only at hoff F7 N7
    simp only [List.cons_append] at N7
    refine hall i hi _ fun y z cc a n t1 t2 e1 e2 e3 e4 e5 e6 => ?_
    have e7 : ws.getD (2 * (0 + (i : Int) * 1) + 1).toNat Str.empty = z := by
      rw [List.getD_eq_getElem?_getD, show (2 * (0 + (i : Int) * 1) + 1).toNat = 2 * i + 1 by omega, e2]
      rfl
    have e8 : ks[(0 + (i : Int) * 1).toNat]? = some (ks.getD i 0) := by rw [show (0 + (i : Int) * 1).toNat = i by omega]; exact Mine.get_of hi
    rw [← e7] at e4 e6
    have hz := Mine.rdB_len e4
    clear e1 e2 e3 e7 y z
    k_steps
    unfold Mine.Lock
    refine Mine.ne_ints (News.isTup (by k_asm) (by repeat first | exact List.mem_append_left _ e6 | apply List.mem_cons_of_mem)) (News.isTup (by k_asm) (by k_mem)) (.cons _ _ (.cons _ _ .nil)) (.cons _ _ (.cons _ _ .nil)) (by ktr_units) ?_
    k_steps
    rename Fr _ _ _ _ => F9
    rename News _ _ _ _ => N9
    refine Mine.lp_end () F9 N9 (by kcf_all) (by kcf_all) hoff (fun _ h => nomatch h) (fun z h1 h2 h3 => ?_) trivial
    have z1 : z ≠ Str.ofString "text" := Mine.lp_nope h3 (by decide)
    simp only [kstB, z1, h1, h3, if_false, Bool.false_eq_true]
    --END
  rintro ⟨⟩ u7 h7 tk7 _ F7 N7
  try dsimp only at N7
  clear F6 N6 hr hall
  rcases hk with rfl | rfl
  · --SKIP
    have hl12 : ks.length = 12 := by rw [← hks]; exact Mine.known12 p
    k_steps
    rename Fr _ _ _ _ => F8
    rename News _ _ _ _ => N8
    have hly := iy'.length
    have hl0 : (Mine.symL 0 p).length = 12 := rfl
    refine Mine.at_tuple rfl F8 N8 (.inr ⟨_, by k_mem, rfl, _, rfl⟩) (by rw [List.size_toArray, PySem.sizeLine_eq]; omega) fun g => ?_
    refine Mine.rest_ints (ks := Mine.symL 0 p) (by rw [List.size_toArray]; exact hly.symm) (fun i v I oI C oC D' m₂ ys2 h2 tk2 E2 hi hv hC hm F2 N2 off ne => ?_) fun ys2 hys2 => ?_
    · obtain ⟨k, t, rfl, hkk⟩ := IntsAre.at iy' i v (by simpa using hv)
      clear F8 N8
      k_steps
      refine CompEnd.intro (by assumption) (by assumption) _ (fun _ h => h) off (.inr ⟨_, by k_mem, rfl, _, rfl⟩) ?_
      exact ⟨rfl, _, _, hkk, rfl⟩
    intro D4 h4 tk4 F4 N4 o4
    clear F8 N8
    k_steps
    unfold Mine.Lock
    have hl2 := hys2.length
    refine Mine.sorted_long (by k_asm) (by k_asm) (News.isList (by k_asm) (by k_mem)) hys2 (by omega) (by omega) fun h5 vs5 ns5 e5 F5 N5 l5 hI5 hp5 hs5 => ?_
    have hs0 := Mine.sorted_is hp5 hs5 (Mine.sym0_sorted p)
    k_steps
    unfold Mine.Lock
    rename CarriedAll _ _ => hca
    have hd : decide (ns5 = rangeInts 0 1 ((12 : Int) - 0).toNat) = true := decide_eq_true (by rw [hs0]; rfl)
    refine ke_eq_ints (News.isList (by k_asm) (by k_mem)) (by assumption) hI5 (IntsAre.ofCarried hca) (by ktr_units) ?_
    rw [hd]
    k_steps
    --END
  have hl36 := Mine.known_len (k := 1) (p := p)
  k_steps
  unfold Mine.Lock
  try clear F7 N7
  rename IsRange _ _ _ _ _ _ _ _ => hr
  rename Fr _ _ _ _ => F8
  rename News _ _ _ _ => N8
  have hrun := N8
  obtain ⟨rA, rest, hrA, hrest, N9⟩ := Mine.run_parts (Mine.run_turn N8)
  rename _ < _ ∧ _ < _ ∧ _ < _ ∧ x9 < _ ∧ _ => lD
  rename D2 < _ ∧ _ => lW
  have hWl : @Ne Nat _ rA := Nat.ne_of_gt (hrA ▸ lW.2.2.2.2.1)
  replace hrun : ∀ q ∈ rest, q.1 ≠ rA := by
    rw [hrA, hrest]
    exact List.forall_mem_cons.mpr ⟨Ne.symm o1r, List.forall_mem_cons.mpr ⟨Nat.ne_of_gt lD.2.2.1, List.forall_mem_cons.mpr ⟨Nat.ne_of_lt (Nat.lt_succ_of_lt (Nat.lt_succ_self _)), List.forall_mem_cons.mpr ⟨Nat.ne_of_lt (Nat.lt_succ_self _), hcR⟩⟩⟩⟩
  clear N8 o1w o1k o1r lD lW hcW hcK hcR
  refine Mine.lp_rangeT (σ := Mine.RunSt) (n := 16) (fun c => (c.D, listOf c.vs.toArray c.n) :: (rA, c.oc) :: rest) (fun c => [(Str.ofString "wanted", .ref c.D)]) [] (fun i c => IntsAre c.vs (Mine.wantTo i) ∧ @Ne Nat c.D rA ∧ ∃ v₀, c.oc.data = .cell v₀) ⟨_, [.int 0 _, .int 240 _], 0, _⟩ rfl hr (by decide) (by rfl) F8 N9 (fun _ h => h) (fun p hp => by cases List.mem_singleton.mp hp; rfl) ⟨.cons _ _ (.cons _ _ .nil), hWl, ⟨_, by assumption⟩⟩ ?_ ?_
  · --SKIP
    intro cc i t u h7 tk7 own hi hoff hP F7 N7
    have hv := hP.1
    have hD := hP.2.1
    obtain ⟨v₀, hd⟩ := hP.2.2
    clear hP
    clear F8 N9
    try dsimp only at hv hD hd hoff F7 N7
    have hvl := hv.length
    have hvw := Mine.wantTo_len i
    have hne := Mine.all_app hrun (Mine.off_ne hoff (List.mem_cons_of_mem _ List.mem_cons_self))
    subst hrest
    simp only [List.cons_append] at N7 hne
    subst hrA
    clear hrun
    k_steps
    rename IsRange _ _ _ _ _ _ _ _ => hr2
    rename Fr _ _ _ _ => F9
    rename News _ _ _ _ => N9
    refine Mine.at_range (n := 10) rfl F9 N9 hr2 (by decide) (by rfl) (by rw [PySem.sizeLine_eq]; omega) fun g => ?_
    refine Mine.rest_ints (ks := Mine.rowTo i 10) rfl (fun j v I oI C oC D' m₂ ys h2 tk2 E2 hi hv hC hm F2 N2 off ne => ?_) fun ys2 hys2 => ?_
    · obtain ⟨tv, rfl⟩ := hv
      clear F9 N9 F7 N7
      k_steps
      refine CompEnd.intro (by assumption) (by assumption) _ (fun _ h => h) off ?_ ?_
      · exact trivial
      · exact ⟨rfl, _, _, Mine.rowTo_get i hi, rfl⟩
    intro D4 h4 tk4 F4 N4 o4
    clear F9 N9 F7 N7
    have hr10 := Mine.rowTo_len i 10
    k_steps
    rename Fr _ _ _ _ => F9
    rename News _ _ _ _ => N9
    rename IntsAre _ (_ ++ _) => hI9
    rename _ < _ ∧ _ => l9
    refine Mine.lp_end2 ⟨_, _, 0, _⟩ F9 N9 (fun p hp => by cases List.mem_singleton.mp hp; rfl) (by kcf_all) (by kcf_all) ?_ ?_ ⟨hI9, ?_, ⟨_, by assumption⟩⟩
    · intro p hp b hb
      rcases List.mem_cons.mp hb with rfl | hb
      · exact Nat.ne_of_lt (kst_ltOf l9.2.2.2.2.2.2.2.2.2.2.2.2 p (List.mem_append_right _ hp))
      · exact hoff p hp b (List.mem_cons_of_mem _ hb)
    · intro z h1 h2 h3
      have hw : z ≠ Str.ofString "wanted" := h2 _ List.mem_cons_self
      simp only [kstB, hw, h1, h3, if_false, Bool.false_eq_true]
    · exact Nat.ne_of_gt l9.2.2.1
    --END
  intro cc u8 h8 tk8 hP F8 N8
  have hv := hP.1
  clear hP
  try dsimp only at hv F8 N8
  have hvl := hv.length
  have hvw := Mine.wantTo_len 16
  subst hrest
  clear N9 hrun
  obtain ⟨sl, hsl⟩ : ∃ sl, Mine.sortedL 1 = sl := ⟨_, rfl⟩
  have hwp := Mine.want_perm
  have hyp := Mine.sym1_perm hp
  have hss := Mine.sorted1
  have hs162 := Mine.sorted1_len
  obtain ⟨rs, hrs⟩ : ∃ rs, Mine.restS p = rs := ⟨_, rfl⟩
  have hrl := (Mine.rest_is hp).2
  have hra := Mine.rest_at hp cq9
  have hrf2 : sl.filter (fun k => !(ks.any fun x => x == k)) = rs := by rw [← hrs, ← hsl, ← hks]; rfl
  rw [hsl] at hwp hyp hss hs162
  rw [hrs] at hra hrl
  clear cq9
  k_steps
  rename Fr _ _ _ _ => F9
  rename News _ _ _ _ => N9
  refine Mine.at_list rfl F9 N9 (.inr ⟨_, by k_mem, rfl, _, rfl⟩) (by rw [List.size_toArray, PySem.sizeLine_eq]; omega) fun g => ?_
  refine Mine.rest_ints (ks := Mine.wantTo 16) (by rw [List.size_toArray]; exact hvl.symm) (fun i v I oI C oC D' m₂ ys2 h2 tk2 E2 hi hv2 hC hm F2 N2 off ne => ?_) fun ys2 hys2 => ?_
  · --SKIP
    obtain ⟨k, t, rfl, hkk⟩ := IntsAre.at hv i v (by simpa using hv2)
    clear F9 N9
    k_steps
    refine CompEnd.intro (by assumption) (by assumption) _ (fun _ h => h) off (.inr ⟨_, by k_mem, rfl, _, rfl⟩) ?_
    exact ⟨rfl, _, _, hkk, rfl⟩
    --END
  intro D4 h4 tk4 F4 N4 o4
  clear F9 N9
  k_steps
  unfold Mine.Lock
  have hl2 := hys2.length
  refine Mine.sorted_long (by k_asm) (by k_asm) (News.isList (by k_asm) (by k_mem)) hys2 (by omega) (by omega) fun h5 vs5 ns5 e5 F5 N5 l5 hI5 hp5 hs5 => ?_
  obtain rfl : ns5 = sl := Mine.sorted_is (hp5.trans hwp) hs5 hss
  clear hp5 hs5 hys2 l5
  k_steps
  rename Fr _ _ _ _ => F9
  rename News _ _ _ _ => N9
  have hly := iy'.length
  have hl1 := hyp.length_eq
  refine Mine.at_tuple rfl F9 N9 (.inr ⟨_, by k_mem, rfl, _, rfl⟩) (by rw [List.size_toArray, PySem.sizeLine_eq]; omega) fun g => ?_
  refine Mine.rest_ints (ks := Mine.symL 1 p) (by rw [List.size_toArray]; exact hly.symm) (fun i v I oI C oC D' m₂ ys2 h2 tk2 E2 hi hv2 hC hm F2 N2 off ne => ?_) fun ys2 hys2 => ?_
  · --SKIP
    obtain ⟨k, t, rfl, hkk⟩ := IntsAre.at iy' i v (by simpa using hv2)
    clear F9 N9
    k_steps
    refine CompEnd.intro (by assumption) (by assumption) _ (fun _ h => h) off (.inr ⟨_, by k_mem, rfl, _, rfl⟩) ?_
    exact ⟨rfl, _, _, hkk, rfl⟩
    --END
  intro D6 h6 tk6 F6 N6 o6
  clear F9 N9
  k_steps
  unfold Mine.Lock
  have hl6 := hys2.length
  refine Mine.sorted_long (by k_asm) (by k_asm) (News.isList (by k_asm) (by k_mem)) hys2 (by omega) (by omega) fun h7 vs7 ns7 e7 F7 N7 l7 hI7 hp7 hs7 => ?_
  obtain rfl : ns7 = ns5 := Mine.sorted_is (hp7.trans hyp) hs7 hss
  clear hp7 hs7 hys2 l7
  k_steps
  unfold Mine.Lock
  have hd2 : (!decide (ns7 = ns7)) = false := by rw [decide_eq_true rfl]; rfl
  refine ke_ne_ints (News.isList (by k_asm) (by k_mem)) (News.isList (by k_asm) (by k_mem)) hI7 hI5 (by ktr_units) ?_
  rw [hd2]
  k_steps
  rename Fr _ _ _ _ => F9
  rename News _ _ _ _ => N9
  have hl5 := hI5.length
  refine Mine.at_list rfl F9 N9 (.inr ⟨_, by k_mem, rfl, _, rfl⟩) (by rw [List.size_toArray, PySem.sizeLine_eq]; omega) fun g => ?_
  refine Mine.rest_filter (fun k => !(ks.any fun x => x == k)) (by rw [List.size_toArray]; exact hl5.symm) (fun i v _ hv2 => ?_) (fun k t I oI C oC D m₂ ys h3 tk3 E' hk hC hm F3 N3 off ne => ?_) fun ys3 hys3 => ?_
  · obtain ⟨k, t, e1, e2⟩ := IntsAre.at hI5 i v (by simpa using hv2)
    exact ⟨k, t, e2, e1⟩
  · --SKIP
    clear F9 N9
    k_steps
    · refine CompEnd.intro (by assumption) (by assumption) _ (fun _ h => h) off (.inr ⟨_, by k_mem, rfl, _, rfl⟩) ?_
      exact ⟨rfl, by rename _ = true => hq; rw [hq]; rfl⟩
    · refine CompEnd.intro (by assumption) (by assumption) _ (fun _ h => h) off (.inr ⟨_, by k_mem, rfl, _, rfl⟩) ?_
      exact ⟨rfl, by rename _ = false => hq; rw [hq]; rfl, _, rfl⟩
    --END
  intro D8 h8 tk8 F8 N8 o8
  clear F9 N9
  rw [hrf2] at hys3
  have hl3 := hys3.length
  k_steps
  unfold Mine.Lock
  rename Fr _ _ _ _ => F9
  rename News _ _ _ _ => N9
  refine Mine.lp_list (σ := Value) (fun _ => _) (fun v => [(Str.ofString "ahead", v)]) [Str.ofString "code", Str.ofString "size"] (fun i v => (i = 0 ∧ v = .none) ∨ (0 < i ∧ ∃ t, v = .int (65535 - (rs.length : Int) + (i : Int) - 1) t)) .none rfl (fun _ => by k_mem) F9 N9 (fun _ h => h) (fun p hp => by cases List.mem_singleton.mp hp; rfl) (.inl ⟨rfl, rfl⟩) ?_ ?_
  · rintro va i x u h9 tk9 own hi hoff hP F7 N7
    clear F9 N9
    dsimp only at hP hoff F7 N7
    simp only [List.cons_append] at N7
    obtain ⟨k, t, rfl, hkk⟩ := IntsAre.at hys3 i x hi
    have hil : i < rs.length := (List.getElem?_eq_some_iff.mp hkk).1
    refine hra i hil _ fun a n t1 t2 q1 q2 => ?_
    rw [List.getD_eq_getElem?_getD, hkk] at q1
    change valueAt kvs9 k = some (.ref a) at q1
    have fl : Mine.Flag := trivial
    k_steps
    rename News _ _ _ _ => N10
    have m8 : IsTup _ a [Value.int (65535 - (rs.length : Int) + (i : Int)) t1, .int 16 t2].toArray := News.isTup N10 (by repeat first | exact List.mem_append_left _ q2 | apply List.mem_cons_of_mem)
    try dsimp only at m8
    have hne : ∀ z, z ≠ Str.ofString "symbol" → (∀ p ∈ [(Str.ofString "ahead", Value.int (65535 - (rs.length : Int) + (i : Int)) t1)], z ≠ p.1) → [Str.ofString "code", Str.ofString "size"].contains z = false → z ≠ Str.ofString "ahead" ∧ z ≠ Str.ofString "code" ∧ z ≠ Str.ofString "size" := fun z h1 h2 h3 => ⟨h2 _ List.mem_cons_self, Mine.lp_nope h3 (by decide), Mine.lp_nope h3 (by decide)⟩
    have hq : ∀ t, ∃ t', Value.int (65535 - (rs.length : Int) + (i : Int)) t = .int (65535 - (rs.length : Int) + ((i + 1 : Nat) : Int) - 1) t' := fun t => ⟨t, by rw [show 65535 - (rs.length : Int) + ((i + 1 : Nat) : Int) - 1 = 65535 - (rs.length : Int) + (i : Int) by omega]⟩
    rcases hP with ⟨h0, rfl⟩ | ⟨h0, tv, rfl⟩
    all_goals (
      k_steps
      rename Fr _ _ _ _ => F7
      rename News _ _ _ _ => N7
      refine Mine.lp_end2 _ F7 N7 (fun p hp => by cases List.mem_singleton.mp hp; rfl) (by kcf_all) (by kcf_all) hoff ?_ (.inr ⟨Nat.succ_pos _, hq t1⟩)
      intro z h1 h2 h3
      obtain ⟨z1, z2, z3⟩ := hne z h1 h2 h3
      simp only [kstB, z1, z2, z3, h1, h3, if_false, Bool.false_eq_true])
  · rintro va u h9 tk9 hP F7 N7
    clear F9 N9
    dsimp only at hP F7 N7
    obtain ⟨t9, rfl⟩ : ∃ t, va = .int 65534 t := by
      rcases hP with ⟨h0, _⟩ | ⟨_, t, rfl⟩
      · omega
      · exact ⟨t, by rw [show 65535 - (rs.length : Int) + (ys3.length : Int) - 1 = 65534 by omega]⟩
    k_steps)

end
theorem PySem.Challenge.cw_ok0131_01_holds : PySem.Challenge.rw_ok0131_01.Holds := by
  exact Mine.tt
