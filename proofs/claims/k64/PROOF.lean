import PyProof.Rows.All
import HandS.ForMost
import HandS.Wide
import HandS.IsInst
import HandS.Strs
import HandS.Set
import HandS.TupSets
import PyProof.Rows.SortShellAny
import HandS.Codes
import PySem.Challenge.RW_sealedplans_k64_whole_counts_of_primes
section
set_option Elab.async false
set_option linter.all false
set_option maxRecDepth 100000
namespace K64
open PySem PySem.Spec PyProof.Rows L2
def topS (i : Nat) : Stmt := PySem.Challenge.pw_sealedplans_k64_whole_counts_of_primes.main.body.getD i (.Pass ⟨0, 0, 0, 0⟩)
abbrev sIsInteger : Stmt := topS 8
theorem scIsInteger : FnScope ["thing"] ["thing"] (defScope sIsInteger) := ⟨rfl, rfl, rfl, by decide +kernel, rfl, by decide +kernel, by decide +kernel⟩
abbrev sIsWithin : Stmt := topS 9
theorem scIsWithin : FnScope ["thing", "least", "most"] ["thing", "least", "most"] (defScope sIsWithin) := ⟨rfl, rfl, rfl, by decide +kernel, rfl, by decide +kernel, by decide +kernel⟩
abbrev sCheckCount : Stmt := topS 10
theorem scCheckCount : FnScope ["thing", "least", "most"] ["thing", "least", "most"] (defScope sCheckCount) := ⟨rfl, rfl, rfl, by decide +kernel, rfl, by decide +kernel, by decide +kernel⟩
abbrev sIsLetters : Stmt := topS 14
theorem scIsLetters : FnScope ["thing", "sign", "k"] ["thing"] (defScope sIsLetters) := ⟨rfl, rfl, rfl, by decide +kernel, rfl, by decide +kernel, by decide +kernel⟩
abbrev sCheckLetters : Stmt := topS 15
theorem scCheckLetters : FnScope ["doors", "names"] ["doors", "names"] (defScope sCheckLetters) := ⟨rfl, rfl, rfl, by decide +kernel, rfl, by decide +kernel, by decide +kernel⟩
abbrev sCheckSize : Stmt := topS 16
theorem scCheckSize : FnScope ["thing", "least"] ["thing", "least"] (defScope sCheckSize) := ⟨rfl, rfl, rfl, by decide +kernel, rfl, by decide +kernel, by decide +kernel⟩
abbrev sSignOf : Stmt := topS 17
theorem scSignOf : FnScope ["number", "sign", "factor"] ["number"] (defScope sSignOf) := ⟨rfl, rfl, rfl, by decide +kernel, rfl, by decide +kernel, by decide +kernel⟩
abbrev sPrimeWaits : Stmt := topS 18
theorem scPrimeWaits : FnScope ["size", "bodies", "k"] ["size", "bodies"] (defScope sPrimeWaits) := ⟨rfl, rfl, rfl, by decide +kernel, rfl, by decide +kernel, by decide +kernel⟩
abbrev sCounted : Stmt := topS 19
theorem scCounted : FnScope ["doors", "names", "size", "plans", "primes", "depth", "bodies", "weights", "n", "simple", "k"] ["doors", "names", "size"] (defScope sCounted) := ⟨rfl, rfl, rfl, by decide +kernel, rfl, by decide +kernel, by decide +kernel⟩
abbrev sCountOf : Stmt := topS 20
theorem scCountOf : FnScope ["doors", "names", "size"] ["doors", "names", "size"] (defScope sCountOf) := ⟨rfl, rfl, rfl, by decide +kernel, rfl, by decide +kernel, by decide +kernel⟩
abbrev sCount : Stmt := topS 21
theorem scCount : FnScope ["doors", "names", "size"] ["doors", "names", "size"] (defScope sCount) := ⟨rfl, rfl, rfl, by decide +kernel, rfl, by decide +kernel, by decide +kernel⟩
abbrev sCountPrimes : Stmt := topS 22
theorem scCountPrimes : FnScope ["doors", "names", "size"] ["doors", "names", "size"] (defScope sCountPrimes) := ⟨rfl, rfl, rfl, by decide +kernel, rfl, by decide +kernel, by decide +kernel⟩
abbrev sWithPrimes : Stmt := topS 23
theorem scWithPrimes : FnScope ["table", "size", "sorts", "found", "ways", "many", "n", "m", "row"] ["table", "size", "sorts"] (defScope sWithPrimes) := ⟨rfl, rfl, rfl, by decide +kernel, rfl, by decide +kernel, by decide +kernel⟩
abbrev sCountWith : Stmt := topS 24
theorem scCountWith : FnScope ["doors", "names", "size", "many", "table", "k", "sorts", "n", "m"] ["doors", "names", "size", "many"] (defScope sCountWith) := ⟨rfl, rfl, rfl, by decide +kernel, rfl, by decide +kernel, by decide +kernel⟩
abbrev sLawTape : Stmt := topS 26
theorem scLawTape : FnScope ["_law_script"] ["_law_script"] (defScope sLawTape) := ⟨rfl, rfl, rfl, by decide +kernel, rfl, by decide +kernel, by decide +kernel⟩
abbrev sLawPick : Stmt := topS 27
theorem scLawPick : FnScope ["_law_tape_here", "_law_many", "_law_digit", "_law_cell", "_law_mixed"] ["_law_tape_here", "_law_many"] (defScope sLawPick) := ⟨rfl, rfl, rfl, by decide +kernel, rfl, by decide +kernel, by decide +kernel⟩
abbrev sLawIsInt : Stmt := topS 28
theorem scLawIsInt : FnScope ["_law_thing"] ["_law_thing"] (defScope sLawIsInt) := ⟨rfl, rfl, rfl, by decide +kernel, rfl, by decide +kernel, by decide +kernel⟩
abbrev sLawLetters : Stmt := topS 29
theorem scLawLetters : FnScope ["_law_tape_here", "_law_most", "_law_signs", "_law_k"] ["_law_tape_here", "_law_most"] (defScope sLawLetters) := ⟨rfl, rfl, rfl, by decide +kernel, rfl, by decide +kernel, by decide +kernel⟩
abbrev sLawBags : Stmt := topS 30
theorem scLawBags : FnScope ["_law_sorts", "_law_many", "_law_found", "_law_k"] ["_law_sorts", "_law_many"] (defScope sLawBags) := ⟨rfl, rfl, rfl, by decide +kernel, rfl, by decide +kernel, by decide +kernel⟩
abbrev sLawWaits : Stmt := topS 31
theorem scLawWaits : FnScope ["_law_letters_here", "_law_words", "_law_n"] ["_law_letters_here", "_law_words", "_law_n"] (defScope sLawWaits) := ⟨rfl, rfl, rfl, by decide +kernel, rfl, by decide +kernel, by decide +kernel⟩
abbrev sLawDivisors : Stmt := topS 32
theorem scLawDivisors : FnScope ["_law_n", "_law_k"] ["_law_n"] (defScope sLawDivisors) := ⟨rfl, rfl, rfl, by decide +kernel, rfl, by decide +kernel, by decide +kernel⟩
abbrev sLawBagSum : Stmt := topS 33
theorem scLawBagSum : FnScope ["_law_letters_here", "_law_words", "_law_n", "_law_plans", "_law_primes", "_law_total", "_law_k", "_law_one", "_law_s"] ["_law_letters_here", "_law_words", "_law_n"] (defScope sLawBagSum) := ⟨rfl, rfl, rfl, by decide +kernel, rfl, by decide +kernel, by decide +kernel⟩
abbrev sLawWith : Stmt := topS 34
theorem scLawWith : FnScope ["_law_letters_here", "_law_words", "_law_n", "_law_rows", "_law_primes", "_law_pairs", "_law_ones", "_law_k", "_law_one"] ["_law_letters_here", "_law_words", "_law_n"] (defScope sLawWith) := ⟨rfl, rfl, rfl, by decide +kernel, rfl, by decide +kernel, by decide +kernel⟩
abbrev sLawModel : Stmt := topS 35
theorem scLawModel : FnScope ["_law_d", "_law_v", "_law_n", "_law_bodies", "_law_depth", "_law_most", "_law_plans", "_law_primes", "_law_waits_here", "_law_s", "_law_grown", "_law_ways", "_law_j", "_law_m", "_law_k"] ["_law_d", "_law_v", "_law_n"] (defScope sLawModel) := ⟨rfl, rfl, rfl, by decide +kernel, rfl, by decide +kernel, by decide +kernel⟩
abbrev sLawGreat : Stmt := topS 36
theorem scLawGreat : FnScope ["_law_letters_here", "_law_words", "_law_tape_here", "_law_n", "_law_plans", "_law_primes"] ["_law_letters_here", "_law_words", "_law_tape_here"] (defScope sLawGreat) := ⟨rfl, rfl, rfl, by decide +kernel, rfl, by decide +kernel, by decide +kernel⟩
abbrev sLaw : Stmt := topS 37
theorem scLaw : FnScope ["_law_script", "_law_tape_here", "_law_letters_here", "_law_words", "_law_n", "_law_great_here", "_law_many", "_law_spare", "_law_more", "_law_total", "_law_sign", "_law_k"] ["_law_script"] (defScope sLaw) := ⟨rfl, rfl, rfl, by decide +kernel, rfl, by decide +kernel, by decide +kernel⟩
end K64
end
section
set_option Elab.async false
set_option linter.all false
set_option maxRecDepth 100000
set_option maxHeartbeats 4000000
/-! Sets of texts made by set(list), and sorted of them: my own, on the ways that the layer goes for ints. -/
namespace SS2
open PySem PySem.Spec PyProof.Rows L2

/-! ### members of a table -/
def sKey (e : Int × Value) : Str := match e.2 with
  | .str x _ => x
  | _ => Str.empty
def IsS (w : World) (e : Int × Value) : Prop := ∃ x tk, e.2 = Value.str x tk ∧ e.1 = hashStr w x
/-- the set at a has just the texts of L, each once -/
def SetS (w : World) (h : Heap) (a : Addr) (L : List Str) : Prop :=
  ∃ o es ep t, h.get? a = some o ∧ o.ExactSet ∧ o.data = .set es ep t ∧ (∀ e ∈ es.toList, IsS w e) ∧ (es.toList.map sKey).Perm L ∧ L.Nodup ∧
    es.size < scanBound ∧ t.fits es.size = true ∧ Ris t.place.toList ∧ (w.params.followText "set-order" = true ∨ t.led = true)

section
variable {P : Program} {w : World} {A : Around} {E : Value → Shared → Prop} {s : Shared} {a : Addr} {L : List Str}
theorem SetS.at {h h' : Heap} (R : SetS w h a L) (k : ∀ o, h.get? a = some o → h'.get? a = some o) : SetS w h' a L := by
  obtain ⟨o, es, ep, t, ho, r⟩ := R
  exact ⟨o, es, ep, t, k o ho, r⟩
theorem elems_s {l : List (Int × Value)} (g : ∀ e ∈ l, IsS w e) : ElemsOf (strKind P w) l := fun e he => by
  obtain ⟨x, tk, h1, h2⟩ := g e he
  refine ⟨⟨x, ?_, h2⟩, ?_⟩
  · rw [h1]
    show Value.isStrOf x (.str x tk) = true
    simp [Value.isStrOf]
  · rw [h1] <;> rfl
theorem is_s {e : Int × Value} (g : IsS w e) (x : Str) : (strKind P w).is x e.2 = true ↔ sKey e = x := by
  obtain ⟨y, tk, h1, _⟩ := g
  unfold sKey
  rw [h1]
  show Value.isStrOf x (.str y tk) = true ↔ y = x
  constructor
  · intro h
    obtain ⟨t', e'⟩ := Value.isStrOf_shape (x := x) (v := .str y tk) h
    injection e' with e1 _
  · intro h
    subst h
    simp [Value.isStrOf]

/-- behind a new member: the table's own growing -/
theorem grown {g : Bool → Sem Unit} (hg : ∀ (b : Bool) (s₁ : Shared) (Q' : Unit → Shared → Prop), Q' () s₁ → wpAny (model P w) A (g b) Q' E s₁)
    {o : Obj} {es : Array (Int × Value)} {ep : Nat} {t : SetTable} (ho : s.heap.get? a = some o) (hex : o.ExactSet) (hd : o.data = .set es ep t)
    {es1 : Array (Int × Value)} {t2 : SetTable} {L' : List Str} (g1 : ∀ e ∈ es1.toList, IsS w e) (pm1 : (es1.toList.map sKey).Perm L') (nd1 : L'.Nodup)
    (hb1 : es1.size < scanBound) (hf2 : t2.fits es1.size = true) (hr : Ris t2.place.toList) (hl : w.params.followText "set-order" = true ∨ t2.led = true) {wd : Bool} {R : Option Bool → Shared → Prop}
    (hR : ∀ h', Heap.SameBut a s.heap h' → SetS w h' a L' → R (some true) { s with heap := h' }) :
    wpAny (model P w) A (do
        storeSet a es1 t2
        if (!wd && t2.tooFull) = true then do
            g (relayAll t2 es1 (SetTable.grown es1.size)).2.2
            storeSet a (relayAll t2 es1 (SetTable.grown es1.size)).1 (relayAll t2 es1 (SetTable.grown es1.size)).2.1
            pure (some true)
          else pure (some true)) R E s := by
  have at1 := L2.store_at (es' := es1) (t' := t2) ho hd
  have sb1 := Heap.SameBut.update s.heap a (Obj.putSet es1 t2)
  refine wpAny_bind (wpAny_storeSet_of ho hd ?_ (fits_of_scanBound hb1))
  split
  · have h1 := relayAll_perm t2 es1 (SetTable.grown es1.size)
    have h2 := relayAll_fits t2 es1 (SetTable.grown es1.size)
    have h3 := relayAll_ris t2 es1 (SetTable.grown es1.size)
    have h4 := relayAll_led t2 es1 (SetTable.grown es1.size)
    revert h1 h2 h3 h4
    generalize relayAll t2 es1 (SetTable.grown es1.size) = Z
    obtain ⟨es2, t3, gave⟩ := Z
    intro h1 h2 h3 h4
    dsimp only at h1 h2 h3 h4 ⊢
    have hsz : es2.size = es1.size := by
      have := h1.length_eq
      rwa [Array.length_toList, Array.length_toList] at this
    refine wpAny_bind (hg _ _ _ (wpAny_bind (wpAny_storeSet_of at1 rfl ?_ (fits_of_scanBound (by rw [hsz]; exact hb1)))))
    have at2 := L2.store_at (es' := es2) (t' := t3) at1 rfl
    refine wpAny_pure (hR _ (sb1.trans (Heap.SameBut.update _ a _)) ⟨_, es2, _, t3, at2, hex, rfl, fun e he => g1 e (h1.mem_iff.mp he), (h1.map sKey).trans pm1, nd1, by rw [hsz]; exact hb1, h2, h3, ?_⟩)
    exact hl.imp id fun z => h4.trans z
  · exact wpAny_pure (hR _ sb1 ⟨_, es1, _, t2, at1, hex, rfl, g1, pm1, nd1, hb1, hf2, hr, hl⟩)

theorem add_s {x : Str} {tk : Tok} {Q : Bool → Shared → Prop} (R : SetS w s.heap a L) (room : L.length + 1 < scanBound)
    (hQ : ∀ h' b L', Heap.SameBut a s.heap h' → SetS w h' a L' → (x ∈ L → L' = L) → (x ∉ L → L' = x :: L) → Q b { s with heap := h' }) :
    wpAny (model P w) A (setAddHashed a (.str x tk) ((strKind P w).hash x)) Q E s := by
  obtain ⟨o, es, ep, t, ho, hex, hd, g, pm, nd, hb, hf, hr, hl⟩ := R
  have hkey : (strKind P w).is x (.str x tk) = true := by
    show Value.isStrOf x (.str x tk) = true
    simp [Value.isStrOf]
  have hsc : (Value.str x tk).scannable = true := rfl
  have hel : ElemsOf (strKind P w) es.toList := elems_s g
  unfold setAddHashed setAddHashedIn
  refine wpAny_holding (wpAny_bind (wpAny_setState_of ho hd hf ?_))
  dsimp only
  rw [byScan_of hsc hb hel]
  simp only [↓reduceIte]
  unfold setAddByScan
  refine wpAny_bind (wpAny_bind (wpAny_rule (wpAny_bind (wpAny_setScan_of hkey ho hd hf hel ?_))))
  cases hfi : List.findIdx? (fun e => (strKind P w).is x e.2) es.toList with
  | some j =>
    dsimp only
    obtain ⟨hj, pj, _⟩ := List.findIdx?_eq_some_iff_getElem.mp hfi
    have hx : x ∈ L := pm.mem_iff.mp (List.mem_map.mpr ⟨es.toList[j], List.getElem_mem hj, (is_s (P := P) (g _ (List.getElem_mem hj)) x).mp pj⟩)
    refine wpAny_pure (wpAny_pure ?_)
    exact hQ s.heap _ L (Heap.SameBut.refl a s.heap) ⟨o, es, ep, t, ho, hex, hd, g, pm, nd, hb, hf, hr, hl⟩ (fun _ => rfl) (fun z => absurd hx z)
  | none =>
    dsimp only
    have hx : x ∉ L := fun z => by
      obtain ⟨e, he, q⟩ := List.mem_map.mp (pm.mem_iff.mpr z)
      have c := List.findIdx?_eq_none_iff.mp hfi e he
      rw [(is_s (P := P) (g e he) x).mpr q] at c
      cases c
    have hgw : ∀ (b : Bool) {s₁ : Shared} {Q' : Unit → Shared → Prop}, Q' () s₁ → wpAny (model P w) A (match b with | true => rule "set.scan.the-table-gave-way" | false => pure ()) Q' E s₁ :=
      fun b s₁ Q' q => by cases b <;> first | exact wpAny_pure q | exact wpAny_rule q
    have h1 := layNew_perm t es ((strKind P w).hash x) (.str x tk)
    have h2 := layNew_fits t es ((strKind P w).hash x) (.str x tk)
    have h3 := layNew_ris t es ((strKind P w).hash x) (.str x tk) hr
    have h4 := layNew_led t es ((strKind P w).hash x) (.str x tk)
    revert h1 h2 h3 h4
    generalize layNew t es ((strKind P w).hash x) (.str x tk) = Z
    obtain ⟨es1, t1, wd, gave⟩ := Z
    intro h1 h2 h3 h4
    dsimp only at h1 h2 h3 h4 ⊢
    rw [Array.toList_push] at h1
    have pc : es1.toList.Perm (((strKind P w).hash x, Value.str x tk) :: es.toList) := h1.trans (List.perm_append_singleton _ _)
    have pk : (es1.toList.map sKey).Perm (x :: L) := (pc.map sKey).trans (pm.cons x)
    have g1 : ∀ e ∈ es1.toList, IsS w e := fun e he => by
      rcases List.mem_cons.mp (pc.mem_iff.mp he) with z | z
      · exact ⟨x, tk, by rw [z], by rw [z] <;> rfl⟩
      · exact g e z
    have nd1 : (x :: L).Nodup := List.nodup_cons.mpr ⟨hx, nd⟩
    have hlen : es1.size = L.length + 1 := by
      have := pk.length_eq
      rwa [List.length_map, Array.length_toList, List.length_cons] at this
    have hb1 : es1.size < scanBound := by
      rw [hlen]
      exact room
    have hled : w.params.followText "set-order" = true ∨ t1.led = true := hl.imp id fun z => h4.trans z
    have fin : ∀ h', Heap.SameBut a s.heap h' → SetS w h' a (x :: L) → Q true { s with heap := h' } := fun h' sb r => hQ h' _ _ sb r (fun z => absurd z hx) fun _ => rfl
    refine wpAny_bind (hgw _ ?_)
    split
    · refine wpAny_bind ?_
      rw [hashByValue_scannable 8 hsc]
      refine wpAny_pure ?_
      refine grown ?_ ho hex hd g1 pk nd1 hb1 ?_ ?_ ?_ ?_
      · intro b s₁ Q' q
        cases b <;> first | exact wpAny_pure q | exact wpAny_rule q
      · first | (split <;> first | exact h2 | exact SetTable.fits_plain_off h2) | exact h2
      · first | (split <;> exact h3) | exact h3
      · first | (split <;> exact hled) | exact hled
      · intro h' sb r
        dsimp only
        exact wpAny_pure (fin h' sb r)
    · refine wpAny_bind (wpAny_pure ?_)
      simp only [↓reduceIte]
      refine grown ?_ ho hex hd g1 pk nd1 hb1 h2 h3 hled ?_
      · intro b s₁ Q' q
        cases b <;> first | exact wpAny_pure q | exact wpAny_rule q
      · intro h' sb r
        dsimp only
        exact wpAny_pure (fin h' sb r)

theorem set_new {h : Heap} (ho : h.get? a = some { cls := .type "set", dict := none, data := .set #[] 0 (.fresh 0 0 (!w.params.followText "set-order")) }) : SetS w h a [] := by
  refine ⟨_, #[], 0, _, ho, ⟨rfl, rfl, rfl⟩, rfl, (fun e he => nomatch he), List.Perm.refl _, List.nodup_nil, (by unfold scanBound; decide), rfl, List.Pairwise.nil, ?_⟩
  show _ ∨ (!w.params.followText "set-order") = true
  cases w.params.followText "set-order"
  · exact .inr rfl
  · exact .inl rfl
end

/-- what has gone in behind i turns -/
structure In (ks : List Str) (i : Nat) (L : List Str) : Prop where
  mem : ∀ x, x ∈ L ↔ x ∈ ks.take i
  len : L.length ≤ i
theorem In.zero (ks : List Str) : In ks 0 [] := ⟨fun x => by simp, Nat.le_refl _⟩
theorem take_nx {ks : List Str} {i : Nat} {x : Str} (h : ks[i]? = some x) : ks.take (i + 1) = ks.take i ++ [x] := by
  rw [List.take_succ, h] <;> rfl
theorem In.next {ks L L' : List Str} {i : Nat} {x : Str} (g : In ks i L) (h : ks[i]? = some x) (c1 : x ∈ L → L' = L) (c2 : x ∉ L → L' = x :: L) : In ks (i + 1) L' := by
  by_cases c : x ∈ L
  · rw [c1 c]
    refine ⟨fun y => ?_, Nat.le_succ_of_le g.len⟩
    rw [take_nx h, List.mem_append, List.mem_singleton, g.mem]
    exact ⟨.inl, fun z => z.elim id fun e => e ▸ (g.mem x).mp c⟩
  · rw [c2 c]
    refine ⟨fun y => ?_, Nat.succ_le_succ g.len⟩
    rw [take_nx h, List.mem_append, List.mem_singleton, List.mem_cons, g.mem]
    exact Or.comm

section
variable {P : Program} {w : World} {A : Around} {E : Value → Shared → Prop} {s : Shared}
/-- the loop of set.update over texts -/
theorem fill_loop {I : Addr} {fp wr : List Addr} {G : Array GenState → Array GenState → Prop} {n : Nat} {Pv : Nat → Value → Prop} {St : Nat → Shared → Prop} {R : Result → Shared → Prop}
    (W : WalksS P w A.in1 I fp wr G n Pv St) (S : Addr) (hSf : S ∉ fp) (ks : List Str) (hn : n = ks.length) (hfew : ks.length + 1 < scanBound) (hval : ∀ i v, Pv i v → ∃ x tk, ks[i]? = some x ∧ v = .str x tk) :
    ∀ (k i : Nat) (s : Shared), n - i = k → i ≤ n → St i s → (∃ L, SetS w s.heap S L ∧ In ks i L) →
      (∀ s' L, Moved (S :: wr) G s s' → SetS w s'.heap S L → In ks n L → R (.ok (.ret .none)) s') →
      codeAny (model P w) A (.builtin "set.update.loop" ⟨[.ref S, .ref I], []⟩) R s := by
  have hSw : S ∉ wr := fun h => hSf (W.sub _ h)
  have hsub : ∀ b ∈ wr, b ∈ S :: wr := fun b hb => List.mem_cons_of_mem _ hb
  intro k
  induction k with
  | zero =>
    intro i s hk hi hst ⟨L, hS, g⟩ hR
    have e : i = n := by omega
    subst e
    refine codeAny_builtin F.entry_set_update_loop ?_
    rw [Around.under_plainId F.plain_set_update_loop _]
    show wpAny _ A.in1 (pyNext (.ref I) >>= _) _ _ s
    refine wpAny_bind (W.done s _ _ hst fun s' hm => ?_)
    show wpAny _ A.in1 (ret Value.none) _ _ s'
    exact wpAny_pure (hR s' L (hm.mono hsub) (hS.at fun o e => hm.heap S o hSw e) g)
  | succ k ih =>
    intro i s hk hi hst ⟨L, hS, g⟩ hR
    have hlt : i < n := by omega
    refine codeAny_builtin F.entry_set_update_loop ?_
    rw [Around.under_plainId F.plain_set_update_loop _]
    show wpAny _ A.in1 (pyNext (.ref I) >>= _) _ _ s
    refine wpAny_bind (W.item i s _ _ hlt hst fun v s' hP hst' hm => ?_)
    obtain ⟨x, tk, hx, rfl⟩ := hval i v hP
    have hS1 : SetS w s'.heap S L := hS.at fun o e => hm.heap S o hSw e
    show wpAny _ A.in1 (holding [Value.str x tk] (setAdd S (.str x tk)) >>= _) _ _ s'
    refine wpAny_bind (wpAny_holding ?_)
    unfold setAdd
    refine wpAny_holding (wpAny_bind (wpAny_pyHash_str ?_))
    have hlen := g.len
    refine add_s hS1 (by omega) fun h' b L' sb hS2 c1 c2 => ?_
    refine wpAny_pure ⟨plainId_quiet F.plain_set_update_loop _, ih (i + 1) _ (by omega) hlt (W.frame _ s' _ _ hst' (Nat.le_succ _) fun b hb o e => ?_) ⟨L', hS2, g.next hx c1 c2⟩ fun s'' L2 hm2 hS3 g3 => ?_⟩
    · rw [sb.2 b (fun z : b = S => hSf (z ▸ hb))]
      exact e
    · refine hR s'' L2 (Moved.trans W.gtrans ((hm.mono hsub).then_heap (Nat.le_succ _) fun b o hb e => ?_) hm2) hS3 g3
      rw [sb.2 b (fun z : b = S => hb (by rw [z]; exact List.mem_cons_self))]
      exact e

/-- a set that is just made -/
abbrev eS (w : World) : Obj := { cls := .type "set", dict := none, data := .set #[] 0 (.fresh 0 0 (!w.params.followText "set-order")) }
/-- set(xs), xs a list of texts -/
theorem call_set_s {l : Addr} {items : Array Value} {ks : List Str} {Q : Value → Shared → Prop} (hh : A.handled = none) (hl : s.heap.IsList l items) (hi : StrsAre items.toList ks) (hfew : ks.length + 1 < scanBound)
    (h : ∀ (h' : Heap) (tk : Nat) L, SetS w h' s.heap.objs.size L → In ks ks.length L → (∀ b o, s.heap.get? b = some o → h'.get? b = some o) → Q (.ref s.heap.objs.size) { s with heap := h', toks := tk }) :
    wpAny (model P w) A (call (.type "set") [.ref l]) Q E s := by
  have hisz : items.size = ks.length := by rw [← StrsAre.len_eq hi, Array.length_toList]
  obtain ⟨c, tl, hmro⟩ := F.called_set.mro
  have hmade := F.called_set.made
  have hsub := F.called_set.sub
  refine wpAny_call (codeAny_of_tree ?_)
  show wpAny _ _ (callAny (.type "set") _) _ _ _
  refine wpAny_pure ⟨Code.quiet_builtin _ (by decide +kernel), codeAny_builtin F.entry_type_call ?_⟩
  rw [Around.under_plain (weight_type_call_type "set" [.ref l] []) rfl]
  have h1 := F.called_set.notType
  have h2 := F.called_set.canCreate
  have hct := F.typeCall_set_1 (.ref l)
  repeat (any_goals (first | assumption | wp_step))
  refine codeAny_mono (code_set_led1 (.ref l) (E := E) (Q₁ := fun obj s₁ => obj = .ref s.heap.objs.size ∧ s₁ = { s with heap := s.heap.push (eS w) }) ⟨rfl, rfl⟩) fun r s₁ hr => ?_
  cases r with
  | error e => exact hr
  | ok fl =>
    cases fl with
    | ret obj =>
      obtain ⟨rfl, rfl⟩ := hr
      have hS : (s.heap.push (eS w)).get? s.heap.objs.size = some (eS w) := Heap.get?_push_size _ rfl
      have hT : Shared.TypeIs { s with heap := s.heap.push (eS w) } (.ref s.heap.objs.size) "set" := ⟨_, hS, rfl⟩
      have hli := F.called_set.init.lookup
      have hbi := F.called_set.init.bind (.ref s.heap.objs.size)
      repeat (any_goals (first | assumption | wp_step))
      refine codeAny_mono (codeAny_call_builtin (R := wants (fun r s₂ => r = .none ∧ ∃ h' tk L, s₂ = { s with heap := h', toks := tk } ∧ SetS w h' s.heap.objs.size L ∧ In ks ks.length L ∧
          (∀ b o, s.heap.get? b = some o → h'.get? b = some o)) E) F.called_set.init.plain F.entry_set_init (check_set_init_1 hT ?_)) fun r₂ s₂ hr₂ => ?_
      · obtain ⟨ol, hol, hcl, nl, hdl⟩ := hl
        obtain ⟨ocls, odict, odata, oslots⟩ := ol
        simp only at hcl hdl
        subst hcl
        subst hdl
        have hol' : (s.heap.push (eS w)).get? l = some { cls := .type "list", dict := odict, data := .seq items nl, slots := oslots } := Heap.get?_push_of_some _ hol
        have hsls := F.sub_list_set
        have hslf := F.sub_list_frozenset
        have hne : (Value.type "list" == Value.type "dict") = false := by decide
        have hl1 : (s.heap.push (eS w)).IsList l items := ⟨_, hol', rfl, nl, rfl⟩
        unfold Builtin.«set.__init__» noKeywords Builtin.Frozenset.updateFrom
        generalize hPI : pyIter = PI
        wp_walk
        subst hPI
        refine wpAny_pyIter_list hl1 ?_
        refine wpAny_bind (wpAny_runValue ?_)
        have hlS : l < s.heap.objs.size := Heap.lt_size hol
        have hh3 : A.in1.in1.in1.handled = none := by simp [hh]
        have hz1 : (s.heap.push (eS w)).objs.size = s.heap.objs.size + 1 := Heap.size_push ..
        have hneI : l ≠ (s.heap.push (eS w)).objs.size := by
          rw [hz1]
          exact Nat.ne_of_lt (Nat.lt_succ_of_lt hlS)
        have hSf : s.heap.objs.size ∉ [(s.heap.push (eS w)).objs.size, l] := by
          rw [hz1]
          simp only [List.mem_cons, List.mem_singleton, List.not_mem_nil, or_false, not_or]
          exact ⟨Nat.ne_of_lt (Nat.lt_succ_self _), Nat.ne_of_gt hlS⟩
        have hval : ∀ (i : Nat) (v : Value), items[i]? = some v → ∃ x tk, ks[i]? = some x ∧ v = .str x tk := fun i v hv => by
          have q : items.toList[i]? = some v := by rw [Array.getElem?_toList]; exact hv
          obtain ⟨t, e⟩ := SS.strs_at hi i v q
          have hik : i < ks.length := by
            have := (List.getElem?_eq_some_iff.mp q).1
            rwa [StrsAre.len_eq hi] at this
          refine ⟨ks[i], t, List.getElem?_eq_getElem hik, ?_⟩
          rw [e, List.getD_eq_getElem?_getD, List.getElem?_eq_getElem hik]
          rfl
        refine fill_loop ((Walks.list hh3 _ l hneI items).toS) s.heap.objs.size hSf ks hisz hfew hval (items.size - 0) 0 _ (by omega) (Nat.zero_le _)
          ⟨⟨_, Heap.get?_push_size _ rfl, rfl, rfl⟩, (hl1.push _)⟩ ⟨[], set_new (Heap.get?_push_of_some _ hS), In.zero ks⟩ fun s' L hm hS' g' => ?_
        obtain ⟨h', g2, d', tk', os'⟩ := s'
        obtain rfl : g2 = s.gens := hm.gens
        obtain rfl : d' = s.drawn := hm.drawn
        obtain rfl : os' = s.os := hm.os
        show wpAny _ _ _ _ _ _
        refine wpAny_pure ?_
        show wpAny _ _ (ret Value.none) _ _ _
        rw [hisz] at g'
        refine wpAny_pure ⟨rfl, h', tk', L, rfl, hS', g', fun b o e => ?_⟩
        have hb := Heap.lt_size e
        refine hm.heap b o (fun z => ?_) (Heap.get?_push_of_some _ (Heap.get?_push_of_some _ e))
        rcases List.mem_cons.mp z with z | z
        · rw [z] at hb
          exact absurd hb (Nat.lt_irrefl _)
        · rw [List.mem_singleton.mp z, hz1] at hb
          exact absurd hb (Nat.not_lt.mpr (Nat.le_succ _))
      · cases r₂ with
        | error e => exact hr₂
        | ok fl₂ =>
          cases fl₂ with
          | ret r =>
            obtain ⟨rfl, h', tk, L, rfl, hS', g', hk'⟩ := hr₂
            repeat (any_goals (first | assumption | wp_step))
            exact h _ _ _ hS' g' hk'
          | _ => exact hr₂.elim
    | _ => exact hr.elim
end
end SS2
end
section
set_option Elab.async false
set_option linter.all false
set_option maxRecDepth 100000
set_option maxHeartbeats 4000000
namespace SS2
open PySem PySem.Spec PyProof.Rows L2
section
variable {P : Program} {w : World} {A : Around} {E : Value → Shared → Prop} {s : Shared}
/-- sorted of such a set -/
theorem sorted_s {a : Addr} {L : List Str} {Q : Value → Shared → Prop} (R : SetS w s.heap a L) (hh : A.handled = none)
    (hQ : ∀ s' p (out : Array Value) (c : Nat) (ys : List Str), (∀ b o, s.heap.get? b = some o → s'.heap.get? b = some o) → s'.gens = s.gens → s'.os = s.os → s.heap.objs.size ≤ p →
      s'.heap.get? p = some (seqObj "list" out c) → StrsAre out.toList ys → ys.Perm L → sortedS ys = true → Q (.ref p) s') :
    wpAny (model P w) A (call (.builtin "sorted") [.ref a]) Q E s := by
  obtain ⟨o, es, ep, t, ho, hex, hd, g, pm, nd, hb, hf, hr, hl⟩ := R
  refine Calls.call_function_entry kind_sorted plain_sorted entry_sorted (args_sorted1 _) ?_
  unfold Builtin.«sorted»
  refine wpAny_bind (m := checkCount "sorted" 1 1 _) (wpAny_pure ?_)
  refine wpAny_bind (collect_set (A := A.in1) hh ⟨o, ho, hex.1, hd⟩ hf hb hr hl fun s1 vs k1 hz g1 o1 pv => ?_)
  -- what is collected are texts
  have all : ∀ us : List Value, (∀ v ∈ us, ∃ x tk, v = Value.str x tk) → StrsAre us (us.map fun v => sKey (0, v)) := fun us => by
    induction us with
    | nil => intro _; exact .nil
    | cons v us ih =>
      intro h
      obtain ⟨x, tk, rfl⟩ := h v List.mem_cons_self
      exact .cons x tk (ih fun u hu => h u (List.mem_cons_of_mem _ hu))
  have hS : StrsAre vs (vs.map fun v => sKey (0, v)) := all vs fun v hv => by
    obtain ⟨e, he, q⟩ := List.mem_map.mp (pv.mem_iff.mp hv)
    obtain ⟨x, tk, h1, _⟩ := g e he
    exact ⟨x, tk, by rw [← q]; exact h1⟩
  have pk : (vs.map fun v => sKey (0, v)).Perm L := by
    have q := pv.map fun v => sKey (0, v)
    rw [List.map_map] at q
    exact q.trans pm
  have hvl : vs.length = L.length := by
    have := pk.length_eq
    rwa [List.length_map] at this
  have hLz : vs.length ≤ sizeLine := by
    have h1 : vs.length = es.size := by
      have := pv.length_eq
      rw [List.length_map] at this
      exact this
    rw [h1, sizeLine_eq]
    unfold scanBound at hb
    omega
  refine wpAny_bind (wpAny_newList ?_ hLz)
  have hoL : (s1.heap.push (seqObj "list" vs.toArray 0)).get? s1.heap.objs.size = some (seqObj "list" vs.toArray 0) := Heap.get?_push_size _ rfl
  refine wpAny_bind (wpAny_holding (wpAny_call_entry slot_list_sort ⟨_, hoL, rfl⟩ entry_list_sort
    (list_sort_treeKAny strKind_oneLt (s := { s1 with heap := s1.heap.push (seqObj "list" vs.toArray 0) }) hoL hS.keysOf (fun v₁ v₂ rest e => keyKind_strs (by rw [← e]; exact hS)) hLz fun st' hp hs => ⟨_, rfl, ?_⟩) (args_list_sort _)))
  obtain ⟨ys, y1, y2, y3⟩ := sorted_out_str hS hp hs
  obtain ⟨c, hc⟩ := sortedHeap_at (vs := vs) (out := (arrOf st').map (·.2)) hoL
  refine wpAny_pure ⟨_, rfl, hQ _ s1.heap.objs.size _ c ys (fun b u e => ?_) g1 o1 hz hc y1 (y2.trans pk) y3⟩
  have q := k1 b u e
  have hlt := Heap.lt_size q
  show (sortedHeap (s1.heap.push (seqObj "list" vs.toArray 0)) s1.heap.objs.size vs _).get? b = some u
  rw [sortedHeap_old (Nat.ne_of_lt hlt) (by rw [size_push']; exact Nat.lt_succ_of_lt hlt)]
  exact Heap.get?_push_of_some _ q
end
/-- the set at a of the texts L, in the abstract heap -/
def SetSO (w : World) (a : Addr) (L : List Str) : HO := .ext fun h => SetS w h a L
section
variable {X : Cx}
theorem setSO_new {w : World} {P : Program} {H : Hp} {h : Heap} {a : Addr} {L : List Str} (R : SetS w h a L) : ObjOk P w H h a (SetSO w a L) := by
  have ⟨o, _, _, _, ho, _⟩ := R
  exact ⟨R, ⟨o, ho⟩, fun h1 h2 p k => SetS.at p k⟩
def rSetOfS (K : PySem.W.Frag) (w : World) : List V → Hp → VK → Prop := fun xs H Q => ∃ (l : Addr) (ks : List Str), xs = [V.ref l] ∧ SqL K H l (ks.map V.str) ∧ ks.length ≤ 4000 ∧
  ∀ a L, H a = none → L.Nodup → L.length ≤ ks.length → (∀ x, x ∈ L ↔ x ∈ ks) → Q (.ref a) (upd H a (SetSO w a L))
theorem cr_setOfS (hc : X.calm = true) : CallR X (.type "set") (rSetOfS X.K X.w) := by
  intro pins s σ H xs us Q I r h
  obtain ⟨l, ks, rfl, hl, hk, q⟩ := h
  rw [Vals.ref1 r]
  obtain ⟨its, rv, pl, hz⟩ := I.list hl
  have hn : H s.heap.objs.size = none := I.hok.fresh (Nat.le_refl _)
  refine call_set_s (P := X.prog) (w := X.w) (ks := ks) (I.ok.hd hc) pl.isList (by simpa using rv.strs) (by unfold scanBound; omega) fun h' tk L R g k => ?_
  have nd : L.Nodup := by
    obtain ⟨_, _, _, _, _, _, _, _, _, nd, _⟩ := R
    exact nd
  exact ⟨.ref s.heap.objs.size, upd H s.heap.objs.size (SetSO X.w s.heap.objs.size L), I.laid (t' := tk) k (Nat.le_refl _) (setSO_new R), rfl, q _ L hn nd g.len fun x => by
    rw [g.mem, List.take_length]⟩
def rSortedSS (w : World) : List V → Hp → VK → Prop := fun vs H Q => ∃ (a : Addr) (L : List Str), vs = [V.ref a] ∧ H a = some (SetSO w a L) ∧
  ∀ (ys : List Str) (p : Addr), ys.Perm L → sortedS ys = true → H p = none → Q (.ref p) (upd H p (.lst (ys.map V.str)))
theorem cr_sortedSS (hc : X.calm = true) : CallR X (.builtin "sorted") (rSortedSS X.w) := by
  intro pins s σ H vs us Q I r h
  obtain ⟨a, L, rfl, ha, q⟩ := h
  have R : SetS X.w s.heap a L := (I.hok a _ ha).1
  rw [Vals.ref1 r]
  have hsz : L.length ≤ sizeLine := by
    obtain ⟨_, es, _, _, _, _, _, _, pm, _, hb, _⟩ := R
    have := pm.length_eq
    rw [List.length_map, Array.length_toList] at this
    rw [← this, sizeLine_eq]
    unfold scanBound at hb
    omega
  refine sorted_s R (I.ok.hd hc) fun s' p out c ys k g o hp hg hi pm so => ?_
  have hn : H p = none := I.hok.fresh hp
  have hlen : (ys.map V.str).length ≤ sizeLine := by
    rw [List.length_map, pm.length_eq]
    exact hsz
  have J : Inv X pins σ (upd H p (.lst (ys.map V.str))) { s with heap := s'.heap, gens := s'.gens, drawn := s'.drawn, toks := s'.toks } :=
    I.call (ch := []) (Un.laid k hp hn) (I.hok.laid k hp ⟨hlen, out.toList, c, vals_of_strs hi, hg⟩) (by rw [g]; exact I.bare) (fun _ z => nomatch z)
  have e : s' = { s with heap := s'.heap, gens := s'.gens, drawn := s'.drawn, toks := s'.toks } := by
    cases s'
    cases s
    cases o
    rfl
  rw [e]
  exact ⟨.ref p, _, J, rfl, q ys p pm so hn⟩
end
end SS2
end
section
set_option Elab.async false
set_option linter.all false
set_option maxRecDepth 100000
/-! Small layer of my own over HandS: defs by name, promises by what goes in and what comes out. -/
namespace K64
open PySem PySem.Spec PyProof.Rows L2

/-- a def that stands behind the top under its own name -/
def Dl (K : PySem.W.Frag) (mg : Str → Option Value) (x : Str) (st : Stmt) (ps : List Str) : Prop :=
  ∃ f fd, Fun K x x st f fd ∧ mg x = some (.ref f) ∧ Binds K fd ps []
/-- a def that may be called by its name, and what it promises -/
def Cl (P : Program) (w : World) (K : PySem.W.Frag) (mg : Str → Option Value) (base : Heap) (k : Nat) (x : Str) (sp : Sp) : Prop :=
  ∃ f fd ps, FnOk P w K mg base CX0 k f fd ps sp ∧ mg x = some (.ref f) ∧ PySem.W.keepIn K (.ref f) = true ∧ Binds K fd ps []
abbrev EF : XK := fun _ _ _ => False
/-- a promise: the arguments by a datum, what is asked, what comes back -/
def mkSp {α : Type} (args : α → List V) (pre : α → Hp → Prop) (post : α → Hp → V → Hp → Prop) : Sp :=
  fun vs H Q _ => ∃ a, vs = args a ∧ pre a H ∧ ∀ v H', post a H v H' → Q v H'
section
variable {P : Program} {w : World} {K : PySem.W.Frag} {mg : Str → Option Value} {base : Heap}
theorem Dl.cal {x : Str} {st : Stmt} {N ps : List Str} {k : Nat} {α : Type} {args : α → List V} {pre : α → Hp → Prop} {post : α → Hp → V → Hp → Prop} (D : Dl K mg x st ps) (S : FnScope N ps (defScope st)) (len : ∀ a, (args a).length = ps.length)
    (hbody : ∀ (f : Addr) (cdv : Value) (A : Around) (outer : List Env) (s : Shared) (H : Hp) (a : α) (E : XK) (Q : VK), Room k (A.deeper (envOfC x (defScope st) s.heap.objs.size f cdv)) → pre a H → (∀ v H', post a H v H' → Q v H') →
      ∃ t, PSs (cxOf CX0 P w K mg base N x (defScope st) f cdv A outer s H E).nox (defBody st) t ∧ t { nx := fun _ H' => Q .non H', rt := Q } (start N (args a)) H) :
    Cl P w K mg base (k + 1) x (mkSp args pre post) := by
  obtain ⟨f, fd, F, g, b⟩ := D
  refine ⟨f, fd, ps, F.ok S (fun vs H Q E h => ?_) (fun cdv A outer s H vs Q E hr h => ?_), g, F.kp, b⟩
  · obtain ⟨a, rfl, _⟩ := h
    exact len a
  · obtain ⟨a, rfl, p, q⟩ := h
    exact hbody f cdv A outer s H a E Q hr p q
end
section
variable {X : Cx} {k j : Nat} {x : Str} {sp : Sp} {p pos : Pos} {e : Expr} {es : List Expr} {t : TA}
/-- a call by name -/
theorem pcl (c : Cl X.prog X.w X.K X.mg X.base k x sp) (hr : Room j X.A) (ha : PA X (e :: es) t) (hk : k ≤ j := by decide) (hg : Gl X x := by rfl)
    (hdb : (x == ("__debug__" : Str)) = false := by decide) (he : starEach (e :: es) X.env = (false, eval e X.env) :: starEach es X.env := by rfl) (hpl : (backTo pos (starEach es X.env)).any (·.1) = false := by rfl) :
    PE X (.Call (.Name x p) (e :: es) [] pos) (tCall sp [] EF t) := by
  obtain ⟨f, fd, ps, F, hm, kp, b⟩ := c
  exact pe_call F (hr.mono hk) hg hm kp b .nil pass0 ha hdb he hpl
end
/-- all but what stands at t is as it was -/
def But (t : Addr) (H H' : Hp) : Prop := ∀ b o, b ≠ t → H b = some o → H' b = some o
theorem But.refl (t : Addr) (H : Hp) : But t H H := fun _ _ _ h => h
theorem But.trans {t : Addr} {H H1 H2 : Hp} (a : But t H H1) (b : But t H1 H2) : But t H H2 := fun c o n h => b c o n (a c o n h)
theorem sameBut {t : Addr} {H H1 : Hp} (a : Same H H1) : But t H H1 := fun c o _ h => a c o h
theorem but_upd {H : Hp} {t : Addr} {o : HO} : But t H (upd H t o) := fun b x n e => by
  rw [upd_ne n]
  exact e
theorem same_upd {H : Hp} {p : Addr} {o : HO} (h : H p = none) : Same H (upd H p o) := fun b x e => by
  rw [upd_ne (ne_of_none e h)]
  exact e
theorem same_upd_at {H H1 : Hp} {p : Addr} {o : HO} (s : Same H H1) (h : H p = none) : Same H (upd H1 p o) := fun b x e => by
  rw [upd_ne (ne_of_none e h)]
  exact s b x e
theorem butSeq {K : PySem.W.Frag} {t : Addr} {H H' : Hp} {a : Addr} {xs : List V} (e : But t H H') (n : a ≠ t) (h : SqL K H a xs) : SqL K H' a xs := by
  rcases h with (h | ⟨o, h⟩) | h
  · exact .inl (.inl (e _ _ n h))
  · exact .inl (.inr ⟨o, e _ _ n h⟩)
  · exact .inr h
theorem hereL {K : PySem.W.Frag} {H : Hp} {a : Addr} {xs : List V} (h : H a = some (.lst xs)) : SqL K H a xs := .inl (.inl h)
theorem hereT {K : PySem.W.Frag} {H : Hp} {a : Addr} {xs : List V} (h : H a = some (.tup xs)) : SqT K H a xs := .inl (.inl h)

theorem line1000 {n : Nat} (h : n ≤ 1000) : n ≤ sizeLine := Nat.le_of_lt (small1000 h)
/-- two ways to one int -/
theorem if_int {c : Bool} {t u : TE} {σ : L2.St} {H : Hp} {Q : VK} (x : Int) (h1 : c = true → ∀ Q : VK, Q (.int x) H → t σ H Q) (h2 : c = false → ∀ Q : VK, Q (.int x) H → u σ H Q) (k : Q (.int x) H) : if c = true then t σ H Q else u σ H Q := by
  cases c with
  | true => exact iteT (h1 rfl Q k)
  | false => exact iteF (h2 rfl Q k)
/-- xs[k] by values, as o[i] op= e reads it -/
def rGetL (K : PySem.W.Frag) : V → V → Hp → VK → Prop := fun o i H Q => ∃ (p : Addr) (xs : List V) (k : Nat) (v : V), o = .ref p ∧ i = .int (k : Int) ∧ SqL K H p xs ∧ xs[k]? = some v ∧ Q v H
theorem get_list {X : Cx} : PGet X (rGetL X.K) := by
  intro pins s σ H o i ov iv Q I ro ri h
  obtain ⟨p, xs, k, v, rfl, rfl, hq, he, q⟩ := h
  cases ro
  obtain ⟨t, rfl⟩ := ri
  obtain ⟨its, r, pl, hz⟩ := I.list hq
  obtain ⟨w, ew, rw'⟩ := r.get he
  have hl := r.length
  have hlt : k < xs.length := (List.getElem?_eq_some_iff.mp he).1
  have hn := line63
  exact wpAny_getItem_list pl.isList (by omega) (by omega) (by simpa using ew) ⟨v, H, I, rw', q⟩
/-- len of a text, a list, a tuple -/
def rLenK (K : PySem.W.Frag) : List V → Hp → VK → Prop := fun xs H Q => ∃ x n, xs = [x] ∧ LenV K x H n ∧ Q (.int n) H
theorem call_lenK {X : Cx} : CallR X (.builtin "len") (rLenK X.K) := call_len
/-- list(xs) -/
def rListOf (K : PySem.W.Frag) : List V → Hp → VK → Prop := fun xs H Q => ∃ p ys, xs = [.ref p] ∧ (SqL K H p ys ∨ SqT K H p ys) ∧ ∀ l, H l = none → Q (.ref l) (upd H l (.lst ys))
theorem call_listOf {X : Cx} : CallR X (.type "list") (rListOf X.K) := call_list_of
/-- an if whose two ways go on alike -/
theorem ifS_join {b : Bool} {t u : TS} {D : Ends} {σ : L2.St} {H : Hp} (Good : L2.St → Hp → Prop) (h1 : b = true → ∀ N : L2.St → Hp → Prop, (∀ σ' H', Good σ' H' → N σ' H') → t { D with nx := N } σ H)
    (h2 : b = false → ∀ N : L2.St → Hp → Prop, (∀ σ' H', Good σ' H' → N σ' H') → u { D with nx := N } σ H) (k : ∀ σ' H', Good σ' H' → D.nx σ' H') : if b = true then t D σ H else u D σ H := by
  cases b with
  | true => exact iteT (h1 rfl D.nx k)
  | false => exact iteF (h2 rfl D.nx k)
/-! ### the base of isinstance on ints -/
theorem ty_int {K : PySem.W.Frag} {H : Hp} {i : Int} : TyX K H (.int i) (.type "int") := .base (.int i)
theorem ty_str {K : PySem.W.Frag} {H : Hp} {z : Str} : TyX K H (.str z) (.type "str") := .base (.str z)
end K64
end
section
set_option linter.all false
/-! Plain mathematics of counts: convolutions, the Euler product, Moebius. No program in sight. -/
namespace KM

abbrev Sq := Nat → Int

/-! ### convolution -/
def conv : Sq → Sq → Nat → Int
  | f, g, 0 => f 0 * g 0
  | f, g, n + 1 => f 0 * g (n + 1) + conv (fun k => f (k + 1)) g n

theorem conv_congr : ∀ (n : Nat) (f f' g g' : Sq), (∀ k, k ≤ n → f k = f' k) → (∀ k, k ≤ n → g k = g' k) → conv f g n = conv f' g' n
  | 0, f, f', g, g', hf, hg => by
    show f 0 * g 0 = f' 0 * g' 0
    rw [hf 0 (Nat.le_refl _), hg 0 (Nat.le_refl _)]
  | n + 1, f, f', g, g', hf, hg => by
    show f 0 * g (n + 1) + _ = f' 0 * g' (n + 1) + _
    rw [hf 0 (Nat.zero_le _), hg (n + 1) (Nat.le_refl _)]
    rw [conv_congr n (fun k => f (k + 1)) (fun k => f' (k + 1)) g g' (fun k hk => hf (k + 1) (by omega)) (fun k hk => hg k (by omega))]

theorem conv_add_left : ∀ (n : Nat) (f f' g : Sq), conv (fun k => f k + f' k) g n = conv f g n + conv f' g n
  | 0, f, f', g => by
    show (f 0 + f' 0) * g 0 = f 0 * g 0 + f' 0 * g 0
    rw [Int.add_mul]
  | n + 1, f, f', g => by
    show (f 0 + f' 0) * g (n + 1) + conv (fun k => f (k + 1) + f' (k + 1)) g n = (f 0 * g (n + 1) + conv (fun k => f (k + 1)) g n) + (f' 0 * g (n + 1) + conv (fun k => f' (k + 1)) g n)
    rw [conv_add_left n (fun k => f (k + 1)) (fun k => f' (k + 1)) g, Int.add_mul]
    omega

theorem conv_add_right : ∀ (n : Nat) (f g g' : Sq), conv f (fun k => g k + g' k) n = conv f g n + conv f g' n
  | 0, f, g, g' => by
    show f 0 * (g 0 + g' 0) = f 0 * g 0 + f 0 * g' 0
    rw [Int.mul_add]
  | n + 1, f, g, g' => by
    show f 0 * (g (n + 1) + g' (n + 1)) + conv (fun k => f (k + 1)) (fun k => g k + g' k) n = (f 0 * g (n + 1) + conv (fun k => f (k + 1)) g n) + (f 0 * g' (n + 1) + conv (fun k => f (k + 1)) g' n)
    rw [conv_add_right n (fun k => f (k + 1)) g g', Int.mul_add]
    omega

theorem conv_mul_left : ∀ (n : Nat) (c : Int) (f g : Sq), conv (fun k => c * f k) g n = c * conv f g n
  | 0, c, f, g => by
    show c * f 0 * g 0 = c * (f 0 * g 0)
    rw [Int.mul_assoc]
  | n + 1, c, f, g => by
    show c * f 0 * g (n + 1) + conv (fun k => c * f (k + 1)) g n = c * (f 0 * g (n + 1) + conv (fun k => f (k + 1)) g n)
    rw [conv_mul_left n c (fun k => f (k + 1)) g, Int.mul_add, Int.mul_assoc]

theorem conv_zero_left : ∀ (n : Nat) (f g : Sq), (∀ k, k ≤ n → f k = 0) → conv f g n = 0
  | 0, f, g, h => by
    show f 0 * g 0 = 0
    rw [h 0 (Nat.le_refl _), Int.zero_mul]
  | n + 1, f, g, h => by
    show f 0 * g (n + 1) + conv (fun k => f (k + 1)) g n = 0
    rw [h 0 (Nat.zero_le _), Int.zero_mul, conv_zero_left n (fun k => f (k + 1)) g (fun k hk => h (k + 1) (by omega))]
    rfl

/-- from the other side -/
theorem conv_succ' : ∀ (n : Nat) (f g : Sq), conv f g (n + 1) = conv f (fun k => g (k + 1)) n + f (n + 1) * g 0
  | 0, f, g => rfl
  | n + 1, f, g => by
    have e := conv_succ' n (fun k => f (k + 1)) g
    show f 0 * g (n + 2) + conv (fun k => f (k + 1)) g (n + 1) = (f 0 * g (n + 2) + conv (fun k => f (k + 1)) (fun k => g (k + 1)) n) + f (n + 2) * g 0
    rw [e, Int.add_assoc]

theorem conv_comm : ∀ (n : Nat) (f g : Sq), conv f g n = conv g f n
  | 0, f, g => Int.mul_comm _ _
  | n + 1, f, g => by
    rw [conv_succ' n g f]
    show f 0 * g (n + 1) + conv (fun k => f (k + 1)) g n = _
    rw [conv_comm n (fun k => f (k + 1)) g, Int.mul_comm (f 0), Int.add_comm]

theorem conv_assoc : ∀ (n : Nat) (f g h : Sq), conv (conv f g) h n = conv f (conv g h) n
  | 0, f, g, h => Int.mul_assoc _ _ _
  | n + 1, f, g, h => by
    show conv f g 0 * h (n + 1) + conv (fun k => conv f g (k + 1)) h n = f 0 * conv g h (n + 1) + conv (fun k => f (k + 1)) (conv g h) n
    have e : conv (fun k => conv f g (k + 1)) h n = f 0 * conv (fun k => g (k + 1)) h n + conv (fun k => f (k + 1)) (conv g h) n := by
      rw [← conv_assoc n (fun k => f (k + 1)) g h, ← conv_mul_left n (f 0) (fun k => g (k + 1)) h, ← conv_add_left]
      rfl
    rw [e]
    show f 0 * g 0 * h (n + 1) + _ = f 0 * (g 0 * h (n + 1) + conv (fun k => g (k + 1)) h n) + _
    rw [Int.mul_add, Int.mul_assoc, Int.add_assoc]

/-- n times the n-th -/
def th (f : Sq) : Sq := fun n => (n : Int) * f n

theorem th_conv : ∀ (n : Nat) (f g : Sq), (n : Int) * conv f g n = conv (th f) g n + conv f (th g) n
  | 0, f, g => by
    show ((0 : Nat) : Int) * (f 0 * g 0) = ((0 : Nat) : Int) * f 0 * g 0 + f 0 * (((0 : Nat) : Int) * g 0)
    simp
  | n + 1, f, g => by
    have ih := th_conv n (fun k => f (k + 1)) g
    have e1 : conv (fun k => th f (k + 1)) g n = conv (th fun k => f (k + 1)) g n + conv (fun k => f (k + 1)) g n := by
      rw [← conv_add_left]
      refine conv_congr n _ _ _ _ (fun k _ => ?_) (fun _ _ => rfl)
      show ((k + 1 : Nat) : Int) * f (k + 1) = (k : Int) * f (k + 1) + f (k + 1)
      rw [Int.natCast_add, Int.add_mul]
      simp
    show ((n + 1 : Nat) : Int) * (f 0 * g (n + 1) + conv (fun k => f (k + 1)) g n) = (((0 : Nat) : Int) * f 0 * g (n + 1) + conv (fun k => th f (k + 1)) g n) + (f 0 * (((n + 1 : Nat) : Int) * g (n + 1)) + conv (fun k => f (k + 1)) (th g) n)
    rw [e1]
    have e2 : ((n + 1 : Nat) : Int) * conv (fun k => f (k + 1)) g n = (n : Int) * conv (fun k => f (k + 1)) g n + conv (fun k => f (k + 1)) g n := by
      rw [Int.natCast_add, Int.add_mul]
      simp
    rw [Int.mul_add, e2, ih, Int.mul_left_comm ((n + 1 : Nat) : Int) (f 0)]
    simp only [Int.natCast_zero, Int.zero_mul]
    omega

/-- moved by s places -/
def sh (s : Nat) (f : Sq) : Sq := fun n => if n < s then 0 else f (n - s)

theorem conv_sh : ∀ (s n : Nat) (f g : Sq), conv (sh s f) g n = if n < s then 0 else conv f g (n - s)
  | 0, n, f, g => by
    rw [if_neg (Nat.not_lt_zero _)]
    refine conv_congr n _ _ _ _ (fun k _ => ?_) (fun _ _ => rfl)
    show (if k < 0 then 0 else f (k - 0)) = f k
    rw [if_neg (Nat.not_lt_zero _), Nat.sub_zero]
  | s + 1, 0, f, g => by
    rw [if_pos (Nat.succ_pos _)]
    show (if 0 < s + 1 then 0 else f (0 - (s + 1))) * g 0 = 0
    rw [if_pos (Nat.succ_pos _), Int.zero_mul]
  | s + 1, n + 1, f, g => by
    have e : conv (fun k => sh (s + 1) f (k + 1)) g n = conv (sh s f) g n := by
      refine conv_congr n _ _ _ _ (fun k _ => ?_) (fun _ _ => rfl)
      show (if k + 1 < s + 1 then 0 else f (k + 1 - (s + 1))) = if k < s then 0 else f (k - s)
      by_cases h : k < s
      · rw [if_pos h, if_pos (by omega)]
      · rw [if_neg h, if_neg (by omega), Nat.add_sub_add_right]
    show (if 0 < s + 1 then 0 else f (0 - (s + 1))) * g (n + 1) + conv (fun k => sh (s + 1) f (k + 1)) g n = _
    rw [if_pos (Nat.succ_pos _), Int.zero_mul, e, Int.zero_add, conv_sh s n f g]
    by_cases h : n < s
    · rw [if_pos h, if_pos (by omega)]
    · rw [if_neg h, if_neg (by omega), Nat.add_sub_add_right]

/-! ### multichoose for any int -/
def rf (q : Int) : Nat → Int
  | 0 => 1
  | j + 1 => rf q j * (q + j)
def fac : Nat → Int
  | 0 => 1
  | j + 1 => fac j * (j + 1 : Nat)
/-- by the programs' own going -/
def mc (q : Int) : Nat → Int
  | 0 => 1
  | j + 1 => mc q j * (q + j) / (j + 1 : Nat)

theorem fac_pos : ∀ j, 0 < fac j
  | 0 => by decide
  | j + 1 => Int.mul_pos (fac_pos j) (by omega)

theorem rf_succ (q : Int) : ∀ j : Nat, rf (q + 1) (j + 1) = rf q (j + 1) + ((j + 1 : Nat) : Int) * rf (q + 1) j
  | 0 => by
    show 1 * (q + 1 + ((0 : Nat) : Int)) = 1 * (q + ((0 : Nat) : Int)) + ((0 + 1 : Nat) : Int) * 1
    simp
  | j + 1 => by
    have ih := rf_succ q j
    have e1 : rf (q + 1) (j + 1) = rf (q + 1) j * (q + 1 + (j : Int)) := rfl
    have e2 : rf q (j + 2) = rf q (j + 1) * (q + ((j + 1 : Nat) : Int)) := rfl
    show rf (q + 1) (j + 1) * (q + 1 + ((j + 1 : Nat) : Int)) = rf q (j + 2) + ((j + 1 + 1 : Nat) : Int) * rf (q + 1) (j + 1)
    have e3 : rf q (j + 1) = rf (q + 1) (j + 1) - ((j + 1 : Nat) : Int) * rf (q + 1) j := by omega
    rw [e2, e3]
    have c1 : ((j + 1 : Nat) : Int) = (j : Int) + 1 := by omega
    have c2 : ((j + 1 + 1 : Nat) : Int) = (j : Int) + 2 := by omega
    rw [c1, c2, e1]
    generalize rf (q + 1) j = r
    generalize (j : Int) = i
    -- r (q+1+i) (q+1+(i+1)) = (r (q+1+i) - (i+1) r) (q + (i+1)) + (i+2) (r (q+1+i))
    have a1 : r * (q + 1 + i) - (i + 1) * r = r * q := by
      have z : (i + 1) * r = r * (i + 1) := Int.mul_comm _ _
      rw [z, ← Int.mul_sub]
      congr 1
      omega
    rw [a1]
    have a2 : r * (q + 1 + i) * (q + 1 + (i + 1)) = r * ((q + 1 + i) * (q + 1 + (i + 1))) := Int.mul_assoc _ _ _
    have a3 : r * q * (q + (i + 1)) = r * (q * (q + (i + 1))) := Int.mul_assoc _ _ _
    have a4 : (i + 2) * (r * (q + 1 + i)) = r * ((i + 2) * (q + 1 + i)) := Int.mul_left_comm _ _ _
    rw [a2, a3, a4, ← Int.mul_add]
    congr 1
    have b1 : (q + 1 + i) * (q + 1 + (i + 1)) = (q + 1 + i) * q + (q + 1 + i) * (i + 2) := by
      rw [← Int.mul_add]
      congr 1
      omega
    rw [b1, Int.mul_comm (q + 1 + i) q, Int.mul_comm (q + 1 + i) (i + 2)]
    congr 2
    omega

theorem rf_zero : ∀ j : Nat, rf 0 (j + 1) = 0
  | 0 => by decide
  | j + 1 => by
    show rf 0 (j + 1) * _ = 0
    rw [rf_zero j, Int.zero_mul]

theorem fac_dvd : ∀ (j : Nat) (q : Int), fac j ∣ rf q j
  | 0, q => ⟨1, by show (1 : Int) = 1 * 1; decide⟩
  | j + 1, q => by
    have step : ∀ q, fac (j + 1) ∣ ((j + 1 : Nat) : Int) * rf q j := fun q => by
      obtain ⟨c, hc⟩ := fac_dvd j q
      refine ⟨c, ?_⟩
      show _ = fac j * ((j + 1 : Nat) : Int) * c
      rw [hc, Int.mul_comm (fac j) ((j + 1 : Nat) : Int), Int.mul_assoc]
    have up : ∀ q, fac (j + 1) ∣ rf q (j + 1) → fac (j + 1) ∣ rf (q + 1) (j + 1) := fun q h => by
      rw [rf_succ]
      exact Int.dvd_add h (step _)
    have dn : ∀ q, fac (j + 1) ∣ rf (q + 1) (j + 1) → fac (j + 1) ∣ rf q (j + 1) := fun q h => by
      have e := rf_succ q j
      have e' : rf q (j + 1) = rf (q + 1) (j + 1) - ((j + 1 : Nat) : Int) * rf (q + 1) j := by omega
      rw [e']
      exact Int.dvd_sub h (step _)
    have z : fac (j + 1) ∣ rf 0 (j + 1) := ⟨0, by rw [rf_zero, Int.mul_zero]⟩
    have pos : ∀ n : Nat, fac (j + 1) ∣ rf (n : Int) (j + 1) := fun n => by
      induction n with
      | zero => exact z
      | succ n ih =>
        have := up _ ih
        rwa [show ((n : Int) + 1) = ((n + 1 : Nat) : Int) by omega] at this
    have neg : ∀ n : Nat, fac (j + 1) ∣ rf (-(n : Int)) (j + 1) := fun n => by
      induction n with
      | zero => exact z
      | succ n ih =>
        refine dn _ ?_
        rw [show -((n + 1 : Nat) : Int) + 1 = -(n : Int) by omega]
        exact ih
    by_cases h : 0 ≤ q
    · have := pos q.toNat
      rwa [show ((q.toNat : Nat) : Int) = q by omega] at this
    · have := neg (-q).toNat
      rwa [show -(((-q).toNat : Nat) : Int) = q by omega] at this

theorem mc_fac (q : Int) : ∀ j : Nat, mc q j * fac j = rf q j
  | 0 => rfl
  | j + 1 => by
    have ih := mc_fac q j
    obtain ⟨c, hc⟩ := fac_dvd (j + 1) q
    have e : mc q j * (q + j) = ((j + 1 : Nat) : Int) * c := by
      have h1 : fac j * (mc q j * (q + j)) = fac j * (((j + 1 : Nat) : Int) * c) := by
        rw [← Int.mul_assoc, Int.mul_comm (fac j) (mc q j), ih, ← Int.mul_assoc]
        exact hc
      exact Int.eq_of_mul_eq_mul_left (Int.ne_of_gt (fac_pos j)) h1
    show mc q j * (q + j) / ((j + 1 : Nat) : Int) * fac (j + 1) = rf q (j + 1)
    rw [e, Int.mul_ediv_cancel_left _ (by omega), hc, Int.mul_comm]

theorem mc_step (q : Int) (j : Nat) : ((j + 1 : Nat) : Int) * mc q (j + 1) = mc q j * (q + j) := by
  have h1 := mc_fac q (j + 1)
  have h2 := mc_fac q j
  have h3 : fac j * (((j + 1 : Nat) : Int) * mc q (j + 1)) = fac j * (mc q j * (q + j)) := by
    have e1 : fac j * (((j + 1 : Nat) : Int) * mc q (j + 1)) = mc q (j + 1) * fac (j + 1) := by
      show _ = mc q (j + 1) * (fac j * ((j + 1 : Nat) : Int))
      rw [← Int.mul_assoc, Int.mul_comm]
    rw [e1, h1, ← Int.mul_assoc, Int.mul_comm (fac j) (mc q j), h2]
    rfl
  exact Int.eq_of_mul_eq_mul_left (Int.ne_of_gt (fac_pos j)) h3

theorem mc_zero : ∀ j : Nat, mc 0 (j + 1) = 0
  | 0 => by decide
  | j + 1 => by
    show mc 0 (j + 1) * _ / _ = 0
    rw [mc_zero j, Int.zero_mul, Int.zero_ediv]

/-! ### one factor (1 - x^s)^(-q) -/
def fB (s : Nat) (q : Int) : Sq := fun n => if n % s = 0 then mc q (n / s) else 0
/-- its logarithm's: s q at the multiples of s, but 0 -/
def fT (s : Nat) (q : Int) : Sq := fun n => if n % s = 0 ∧ 0 < n then (s : Int) * q else 0

theorem fB_zero {s : Nat} {q : Int} : fB s q 0 = 1 := by
  show (if 0 % s = 0 then mc q (0 / s) else 0) = 1
  rw [if_pos (Nat.zero_mod s), Nat.zero_div]
  rfl
theorem fB_low {s : Nat} {q : Int} {n : Nat} (h0 : 0 < n) (h : n < s) : fB s q n = 0 := by
  show (if n % s = 0 then mc q (n / s) else 0) = 0
  rw [if_neg (by rw [Nat.mod_eq_of_lt h]; omega)]

/-- n B n = (n - s + s q) B (n - s) -/
theorem fB_rec {s : Nat} {q : Int} {n : Nat} (hs : 0 < s) (h : s ≤ n) : (n : Int) * fB s q n = ((s : Int) * q + ((n - s : Nat) : Int)) * fB s q (n - s) := by
  show (n : Int) * (if n % s = 0 then mc q (n / s) else 0) = _ * (if (n - s) % s = 0 then mc q ((n - s) / s) else 0)
  have hm : n % s = (n - s) % s := by
    rw [Nat.mod_eq_sub_mod h]
  rw [← hm]
  by_cases z : n % s = 0
  · rw [if_pos z, if_pos z]
    obtain ⟨j, hj⟩ : ∃ j, n = s * (j + 1) := by
      refine ⟨n / s - 1, ?_⟩
      have h1 := Nat.div_add_mod n s
      have h2 : 1 ≤ n / s := by
        rw [Nat.le_div_iff_mul_le hs]
        omega
      rw [show n / s - 1 + 1 = n / s by omega]
      omega
    have d1 : n / s = j + 1 := by
      rw [hj, Nat.mul_div_cancel_left _ hs]
    have e2 : n - s = s * j := by
      rw [hj, Nat.mul_add]
      omega
    have d2 : (n - s) / s = j := by
      rw [e2, Nat.mul_div_cancel_left _ hs]
    rw [d1, d2, e2, hj]
    have st := mc_step q j
    rw [Int.natCast_mul, Int.natCast_mul, Int.mul_assoc, st, ← Int.mul_add, Int.mul_assoc, Int.mul_comm (mc q j)]
  · rw [if_neg z, if_neg z, Int.mul_zero, Int.mul_zero]

theorem fB_th {s : Nat} (q : Int) (hs : 0 < s) : ∀ n : Nat, (n : Int) * fB s q n = conv (fT s q) (fB s q) n := by
  intro n
  induction n using Nat.strongRecOn with
  | ind n ih =>
    -- T = x^s (s q + T)
    have hT : ∀ k, fT s q k = sh s (fun m => (if m = 0 then (s : Int) * q else 0) + fT s q m) k := fun k => by
      show (if k % s = 0 ∧ 0 < k then (s : Int) * q else 0) = if k < s then 0 else ((if k - s = 0 then (s : Int) * q else 0) + (if (k - s) % s = 0 ∧ 0 < k - s then (s : Int) * q else 0))
      by_cases h : k < s
      · rw [if_pos h]
        by_cases h0 : 0 < k
        · rw [if_neg (fun z => by rw [Nat.mod_eq_of_lt h] at z; omega)]
        · rw [if_neg (fun z => h0 z.2)]
      · rw [if_neg h]
        have hm : k % s = (k - s) % s := by
          rw [Nat.mod_eq_sub_mod (by omega)]
        by_cases h1 : k - s = 0
        · have hk : k = s := by omega
          rw [if_pos h1, if_pos (c := k % s = 0 ∧ 0 < k) ⟨by rw [hk, Nat.mod_self], by omega⟩, if_neg (fun z => by omega), Int.add_zero]
        · rw [if_neg h1, Int.zero_add, hm]
          by_cases z : (k - s) % s = 0
          · rw [if_pos ⟨z, by omega⟩, if_pos ⟨z, by omega⟩]
          · rw [if_neg (fun y => z y.1), if_neg (fun y => z y.1)]
    have e0 : conv (fT s q) (fB s q) n = conv (sh s (fun m => (if m = 0 then (s : Int) * q else 0) + fT s q m)) (fB s q) n := conv_congr n _ _ _ _ (fun k _ => hT k) (fun _ _ => rfl)
    rw [e0, conv_sh]
    by_cases h : n < s
    · rw [if_pos h]
      by_cases h0 : 0 < n
      · rw [fB_low h0 h, Int.mul_zero]
      · have : n = 0 := by omega
        subst this
        simp
    · rw [if_neg h, conv_add_left, ← ih (n - s) (by omega), fB_rec hs (by omega)]
      have e1 : conv (fun m => if m = 0 then (s : Int) * q else 0) (fB s q) (n - s) = (s : Int) * q * fB s q (n - s) := by
        cases n - s with
        | zero => rfl
        | succ m =>
          show (if (0 : Nat) = 0 then (s : Int) * q else 0) * fB s q (m + 1) + conv (fun k => if k + 1 = 0 then (s : Int) * q else 0) (fB s q) m = _
          rw [conv_zero_left m _ _ (fun k _ => if_neg (Nat.succ_ne_zero k)), if_pos rfl, Int.add_zero]
      rw [e1, Int.add_mul]

/-! ### the product up to s -/
def C (q : Sq) : Nat → Sq
  | 0 => fun n => if n = 0 then 1 else 0
  | s + 1 => conv (fB (s + 1) (q (s + 1))) (C q s)
/-- its logarithm's -/
def Wt (q : Sq) : Nat → Sq
  | 0 => fun _ => 0
  | s + 1 => fun n => fT (s + 1) (q (s + 1)) n + Wt q s n

theorem C_th (q : Sq) : ∀ (s n : Nat), (n : Int) * C q s n = conv (Wt q s) (C q s) n
  | 0, n => by
    have z : conv (Wt q 0) (C q 0) n = 0 := conv_zero_left n _ _ (fun _ _ => rfl)
    rw [z]
    show (n : Int) * (if n = 0 then 1 else 0) = 0
    by_cases h : n = 0
    · subst h
      rfl
    · rw [if_neg h, Int.mul_zero]
  | s + 1, n => by
    have hB := fB_th (q (s + 1)) (Nat.succ_pos s)
    show (n : Int) * conv (fB (s + 1) (q (s + 1))) (C q s) n = conv (fun n => fT (s + 1) (q (s + 1)) n + Wt q s n) (conv (fB (s + 1) (q (s + 1))) (C q s)) n
    rw [th_conv, conv_add_left]
    congr 1
    · rw [← conv_assoc]
      exact conv_congr n _ _ _ _ (fun k _ => hB k) (fun _ _ => rfl)
    · -- B * (th C) = B * (W * C) = W * (B * C)
      have e1 : conv (fB (s + 1) (q (s + 1))) (th (C q s)) n = conv (fB (s + 1) (q (s + 1))) (conv (Wt q s) (C q s)) n := conv_congr n _ _ _ _ (fun _ _ => rfl) (fun k _ => C_th q s k)
      rw [e1, ← conv_assoc, ← conv_assoc]
      exact conv_congr n _ _ _ _ (fun k _ => conv_comm k _ _) (fun _ _ => rfl)

theorem conv_one {n : Nat} {f g : Sq} (h0 : f 0 = 1) (h : ∀ k, 0 < k → k ≤ n → f k = 0) : conv f g n = g n := by
  cases n with
  | zero =>
    show f 0 * g 0 = g 0
    rw [h0, Int.one_mul]
  | succ n =>
    show f 0 * g (n + 1) + conv (fun k => f (k + 1)) g n = g (n + 1)
    rw [h0, Int.one_mul, conv_zero_left n _ _ (fun k hk => h (k + 1) (Nat.succ_pos _) (by omega)), Int.add_zero]

theorem C_stay (q : Sq) {s n : Nat} (h : n ≤ s) : C q (s + 1) n = C q s n :=
  conv_one fB_zero fun k h0 hk => fB_low h0 (by omega)
theorem C_stable (q : Sq) {n : Nat} : ∀ {s : Nat}, n ≤ s → C q s n = C q n n
  | 0, h => by
    have : n = 0 := by omega
    subst this
    rfl
  | s + 1, h => by
    by_cases e : n = s + 1
    · rw [e]
    · rw [C_stay q (by omega), C_stable q (by omega)]
theorem C_zero (q : Sq) : ∀ s, C q s 0 = 1
  | 0 => rfl
  | s + 1 => by
    show fB (s + 1) (q (s + 1)) 0 * C q s 0 = 1
    rw [fB_zero, C_zero q s]
    rfl

/-- only the first n primes matter -/
theorem C_congr {q q' : Sq} : ∀ (s n : Nat), (∀ k, k ≤ s → q k = q' k) → C q s n = C q' s n
  | 0, n, _ => rfl
  | s + 1, n, h => by
    show conv (fB (s + 1) (q (s + 1))) (C q s) n = conv (fB (s + 1) (q' (s + 1))) (C q' s) n
    rw [h (s + 1) (Nat.le_refl _)]
    exact conv_congr n _ _ _ _ (fun _ _ => rfl) fun k _ => C_congr s k fun j hj => h j (by omega)

/-- the whole weight: sum over the divisors -/
def W (q : Sq) (n : Nat) : Int := Wt q n n
theorem Wt_stable (q : Sq) {n : Nat} (h0 : 0 < n) : ∀ {s : Nat}, n ≤ s → Wt q s n = W q n
  | 0, h => by omega
  | s + 1, h => by
    by_cases e : n = s + 1
    · rw [e]; rfl
    · show fT (s + 1) (q (s + 1)) n + Wt q s n = W q n
      rw [Wt_stable q h0 (by omega)]
      show (if n % (s + 1) = 0 ∧ 0 < n then _ else 0) + _ = _
      rw [if_neg (fun z => by rw [Nat.mod_eq_of_lt (by omega)] at z; omega), Int.zero_add]
theorem Wt_zero (q : Sq) : ∀ s, Wt q s 0 = 0
  | 0 => rfl
  | s + 1 => by
    show (if 0 % (s + 1) = 0 ∧ 0 < 0 then _ else 0) + Wt q s 0 = 0
    rw [if_neg (fun z => Nat.lt_irrefl _ z.2), Wt_zero q s]
    rfl
theorem W_zero (q : Sq) : W q 0 = 0 := rfl

/-- the Euler transform -/
def E (q : Sq) (n : Nat) : Int := C q n n
theorem E_zero (q : Sq) : E q 0 = 1 := rfl
theorem E_rec (q : Sq) (n : Nat) : (n : Int) * E q n = conv (W q) (E q) n := by
  show (n : Int) * C q n n = _
  rw [C_th q n n]
  refine conv_congr n _ _ _ _ (fun k hk => ?_) (fun k hk => C_stable q hk)
  by_cases h0 : 0 < k
  · exact Wt_stable q h0 hk
  · have : k = 0 := by omega
    subst this
    rw [Wt_zero, W_zero]
theorem W_congr {q q' : Sq} : ∀ {s n : Nat}, (∀ k, k ≤ s → q k = q' k) → Wt q s n = Wt q' s n
  | 0, n, _ => rfl
  | s + 1, n, h => by
    show fT (s + 1) (q (s + 1)) n + Wt q s n = fT (s + 1) (q' (s + 1)) n + Wt q' s n
    rw [h (s + 1) (Nat.le_refl _), W_congr fun j hj => h j (by omega)]
theorem E_congr {q q' : Sq} {n : Nat} (h : ∀ k, k ≤ n → q k = q' k) : E q n = E q' n := C_congr n n h

/-- what divides exactly: the program's own step -/
theorem E_step (q : Sq) (n : Nat) : conv (fun k => W q (k + 1)) (E q) n / ((n + 1 : Nat) : Int) = E q (n + 1) := by
  have h := E_rec q (n + 1)
  have e : conv (W q) (E q) (n + 1) = conv (fun k => W q (k + 1)) (E q) n := by
    show W q 0 * E q (n + 1) + conv (fun k => W q (k + 1)) (E q) n = _
    rw [W_zero, Int.zero_mul, Int.zero_add]
  rw [e] at h
  rw [← h, Int.mul_ediv_cancel_left _ (by omega)]

end KM
end
section
set_option linter.all false
set_option maxRecDepth 100000
set_option Elab.async false
namespace KM

/-! ### sums -/
def sm (f : Nat → Int) : Nat → Int
  | 0 => 0
  | n + 1 => sm f n + f n
theorem sm_congr {f g : Nat → Int} : ∀ n, (∀ k, k < n → f k = g k) → sm f n = sm g n
  | 0, _ => rfl
  | n + 1, h => by
    show sm f n + f n = sm g n + g n
    rw [sm_congr n fun k hk => h k (by omega), h n (by omega)]
theorem sm_zero {f : Nat → Int} : ∀ n, (∀ k, k < n → f k = 0) → sm f n = 0
  | 0, _ => rfl
  | n + 1, h => by
    show sm f n + f n = 0
    rw [sm_zero n fun k hk => h k (by omega), h n (by omega)]
    rfl
theorem sm_add {f g : Nat → Int} : ∀ n, sm (fun k => f k + g k) n = sm f n + sm g n
  | 0 => rfl
  | n + 1 => by
    show sm (fun k => f k + g k) n + (f n + g n) = (sm f n + f n) + (sm g n + g n)
    rw [sm_add n]
    omega
theorem sm_mul {c : Int} {f : Nat → Int} : ∀ n, sm (fun k => c * f k) n = c * sm f n
  | 0 => (Int.mul_zero c).symm
  | n + 1 => by
    show sm (fun k => c * f k) n + c * f n = c * (sm f n + f n)
    rw [sm_mul n, Int.mul_add]
theorem sm_head {f : Nat → Int} : ∀ n, sm f (n + 1) = f 0 + sm (fun k => f (k + 1)) n
  | 0 => by
    show (0 : Int) + f 0 = f 0 + 0
    omega
  | n + 1 => by
    show sm f (n + 1) + f (n + 1) = f 0 + (sm (fun k => f (k + 1)) n + f (n + 1))
    rw [sm_head n]
    omega
theorem sm_cut {f : Nat → Int} {m : Nat} : ∀ {n : Nat}, m ≤ n → (∀ k, m ≤ k → k < n → f k = 0) → sm f n = sm f m
  | 0, h, _ => by
    have : m = 0 := by omega
    subst this
    rfl
  | n + 1, h, z => by
    by_cases e : m = n + 1
    · rw [e]
    · show sm f n + f n = sm f m
      rw [sm_cut (by omega) fun k h1 h2 => z k h1 (by omega), z n (by omega) (by omega), Int.add_zero]
/-- the other order of two sums -/
theorem sm_swap {f : Nat → Nat → Int} (m : Nat) : ∀ n, sm (fun i => sm (fun j => f i j) m) n = sm (fun j => sm (fun i => f i j) n) m
  | 0 => by
    show (0 : Int) = sm (fun _ => 0) m
    exact (sm_zero m fun _ _ => rfl).symm
  | n + 1 => by
    show sm (fun i => sm (fun j => f i j) m) n + sm (fun j => f n j) m = sm (fun j => sm (fun i => f i j) n + f n j) m
    rw [sm_swap m n, sm_add]
/-- a list's sum by the places -/
theorem sum_range (f : Nat → Int) : ∀ n, ((List.range n).map f).sum = sm f n
  | 0 => rfl
  | n + 1 => by
    rw [List.range_succ, List.map_append, List.sum_append, sum_range f n]
    show sm f n + (f n + 0) = sm f n + f n
    omega
theorem conv_sm : ∀ (n : Nat) (f g : Sq), conv f g n = sm (fun k => f k * g (n - k)) (n + 1)
  | 0, f, g => by
    show f 0 * g 0 = 0 + f 0 * g (0 - 0)
    rw [Int.zero_add]
  | n + 1, f, g => by
    rw [sm_head]
    show f 0 * g (n + 1) + conv (fun k => f (k + 1)) g n = f 0 * g (n + 1 - 0) + _
    rw [conv_sm n, Nat.sub_zero]
    congr 1
    refine sm_congr _ fun k hk => ?_
    rw [Nat.add_sub_add_right]

/-! ### the sign by prime factors -/
def sgo : Nat → Nat → Nat → Int → Option Int
  | 0, _, _, _ => none
  | f + 1, n, p, s => if n ≤ 1 then some s else if n % p = 0 then (if (n / p) % p = 0 then some 0 else sgo f (n / p) (p + 1) (-s)) else sgo f n (p + 1) s
def mu (n : Nat) : Int := (sgo 62 n 2 1).getD 0
theorem mu_all : ∀ n : Fin 61, sgo 62 n.val 2 1 = some (mu n.val) := by decide +kernel
theorem mu_some {n : Nat} (h : n ≤ 60) : sgo 62 n 2 1 = some (mu n) := mu_all ⟨n, by omega⟩
theorem mu_le_all : ∀ n : Fin 61, (mu n.val).natAbs ≤ 1 := by decide +kernel
theorem mu_le {n : Nat} (h : n ≤ 60) : (mu n).natAbs ≤ 1 := mu_le_all ⟨n, by omega⟩

/-! ### divisors, from 1 up -/
def divs (n : Nat) : List Nat := ((List.range n).map (· + 1)).filter fun k => n % k == 0
theorem mem_divs {n k : Nat} : k ∈ divs n ↔ 0 < k ∧ k ≤ n ∧ n % k = 0 := by
  unfold divs
  simp only [List.mem_filter, List.mem_map, List.mem_range, beq_iff_eq]
  constructor
  · rintro ⟨⟨a, h, rfl⟩, h2⟩
    exact ⟨by omega, by omega, h2⟩
  · rintro ⟨h1, h2, h3⟩
    exact ⟨⟨k - 1, by omega, by omega⟩, h3⟩
/-- the prime waits, from the numbers of the plans they open to -/
def pw (n : Nat) (B : Sq) : Int := ((divs n).map fun k => mu k * B (n / k - 1)).sum
theorem pw_congr {B B' : Sq} {n : Nat} (h : ∀ k, k < n → B k = B' k) : pw n B = pw n B' := by
  unfold pw
  congr 1
  refine List.map_congr_left fun k hk => ?_
  obtain ⟨h1, h2, h3⟩ := mem_divs.mp hk
  have : 1 ≤ n / k := (Nat.le_div_iff_mul_le h1).mpr (by omega)
  have : n / k ≤ n := Nat.div_le_self n k
  rw [h (n / k - 1) (by omega)]
theorem pw_one {B : Sq} : pw 1 B = B 0 := by
  show (([1] : List Nat).map fun k => mu k * B (1 / k - 1)).sum = B 0
  show mu 1 * B 0 + 0 = B 0
  rw [show mu 1 = 1 by decide, Int.one_mul, Int.add_zero]

/-- a linear form: pairs of factor and place -/
def lin (L : List (Int × Nat)) (B : Sq) : Int := (L.map fun p => p.1 * B (p.2 - 1)).sum
def cf (L : List (Int × Nat)) (m : Nat) : Int := (L.map fun p => if p.2 = m then p.1 else 0).sum
theorem sm_one {m n : Nat} {c : Int} (h : m < n) : sm (fun k => if m = k then c else 0) n = c := by
  induction n with
  | zero => omega
  | succ n ih =>
    show sm (fun k => if m = k then c else 0) n + (if m = n then c else 0) = c
    by_cases e : m = n
    · subst e
      rw [sm_zero m fun k hk => if_neg (by omega), if_pos rfl, Int.zero_add]
    · rw [ih (by omega), if_neg e, Int.add_zero]
theorem lin_cf {N : Nat} (B : Sq) : ∀ L : List (Int × Nat), (∀ p ∈ L, p.2 < N) → lin L B = sm (fun m => cf L m * B (m - 1)) N
  | [], _ => (sm_zero N fun k _ => Int.zero_mul _).symm
  | p :: L, h => by
    show p.1 * B (p.2 - 1) + lin L B = sm (fun m => ((if p.2 = m then p.1 else 0) + cf L m) * B (m - 1)) N
    rw [lin_cf B L fun q hq => h q (List.mem_cons_of_mem _ hq)]
    have e : sm (fun m => ((if p.2 = m then p.1 else 0) + cf L m) * B (m - 1)) N = sm (fun m => (if p.2 = m then p.1 * B (p.2 - 1) else 0)) N + sm (fun m => cf L m * B (m - 1)) N := by
      rw [← sm_add]
      refine sm_congr N fun m _ => ?_
      rw [Int.add_mul]
      by_cases z : p.2 = m
      · rw [if_pos z, if_pos z, z]
      · rw [if_neg z, if_neg z, Int.zero_mul]
    rw [e, sm_one (h p List.mem_cons_self)]
theorem lin_append (L M : List (Int × Nat)) (B : Sq) : lin (L ++ M) B = lin L B + lin M B := by
  unfold lin
  rw [List.map_append, List.sum_append]
theorem lin_flat (f : Nat → List (Int × Nat)) (B : Sq) : ∀ ks : List Nat, lin (ks.flatMap f) B = (ks.map fun k => lin (f k) B).sum
  | [] => rfl
  | k :: ks => by
    rw [List.flatMap_cons, lin_append, lin_flat f B ks]
    rfl
/-- the waits of a size as a linear form -/
def pwL (n : Nat) : List (Int × Nat) := (divs n).map fun k => (mu k, n / k)
theorem pw_lin (n : Nat) (B : Sq) : pw n B = lin (pwL n) B := by
  unfold pw pwL lin
  rw [List.map_map]
  rfl
def okL (L : List (Int × Nat)) (n : Nat) : Bool := L.all (fun p => decide (p.2 < 61)) && decide ((List.range 61).map (cf L) = (List.range 61).map fun m => if n = m then 1 else 0)
theorem of_okL {L : List (Int × Nat)} {n : Nat} (h : okL L n = true) (hn : n < 61) (B : Sq) : lin L B = B (n - 1) := by
  unfold okL at h
  simp only [Bool.and_eq_true, List.all_eq_true, decide_eq_true_eq] at h
  obtain ⟨h1, h2⟩ := h
  rw [lin_cf B L h1]
  have e : sm (fun m => cf L m * B (m - 1)) 61 = sm (fun m => if n = m then B (n - 1) else 0) 61 := by
    refine sm_congr 61 fun m hm => ?_
    have h3 := List.map_inj_left.mp h2 m (List.mem_range.mpr hm)
    rw [h3]
    by_cases z : n = m
    · rw [if_pos z, if_pos z, Int.one_mul, z]
    · rw [if_neg z, if_neg z, Int.zero_mul]
  rw [e, sm_one hn]
/-- Moebius: the prime waits of all divisors -/
theorem moe_all : ∀ n : Fin 61, (n.val = 0 || okL ((divs n.val).flatMap pwL) n.val) = true := by decide +kernel
theorem moe {n : Nat} (h0 : 0 < n) (h : n ≤ 60) (B : Sq) : ((divs n).map fun k => pw k B).sum = B (n - 1) := by
  have e := moe_all ⟨n, by omega⟩
  have e' : okL ((divs n).flatMap pwL) n = true := by
    rcases Bool.or_eq_true _ _ |>.mp e with z | z
    · have : n = 0 := beq_iff_eq.mp z
      omega
    · exact z
  rw [← of_okL e' (by omega) B, lin_flat]
  congr 1
  exact List.map_congr_left fun k _ => pw_lin k B
theorem moe2_all : ∀ n : Fin 61, (n.val = 0 || okL ((divs n.val).flatMap fun k => pwL (n.val / k)) n.val) = true := by decide +kernel
theorem moe2 {n : Nat} (h0 : 0 < n) (h : n ≤ 60) (B : Sq) : ((divs n).map fun k => pw (n / k) B).sum = B (n - 1) := by
  have e := moe2_all ⟨n, by omega⟩
  have e' : okL ((divs n).flatMap fun k => pwL (n / k)) n = true := by
    rcases Bool.or_eq_true _ _ |>.mp e with z | z
    · have : n = 0 := beq_iff_eq.mp z
      omega
    · exact z
  rw [← of_okL e' (by omega) B, lin_flat]
  congr 1
  exact List.map_congr_left fun k _ => pw_lin (n / k) B

/-! ### the weights as the program sums them -/
theorem divs_zero_sum {f : Nat → Int} : ((divs 0).map f).sum = 0 := rfl
theorem W_divs (q : Sq) {n : Nat} (h0 : 0 < n) : W q n = ((divs n).map fun k : Nat => (k : Int) * q k).sum := by
  have key : ∀ s, Wt q s n = ((((List.range s).map (· + 1)).filter fun k => n % k == 0).map fun k : Nat => (k : Int) * q k).sum := fun s => by
    induction s with
    | zero => rfl
    | succ s ih =>
      rw [List.range_succ, List.map_append, List.filter_append, List.map_append, List.sum_append, ← ih]
      show fT (s + 1) (q (s + 1)) n + Wt q s n = _
      rw [Int.add_comm]
      congr 1
      show (if n % (s + 1) = 0 ∧ 0 < n then ((s + 1 : Nat) : Int) * q (s + 1) else 0) = ((List.filter (fun k => n % k == 0) [s + 1]).map fun k : Nat => (k : Int) * q k).sum
      by_cases z : n % (s + 1) = 0
      · rw [if_pos ⟨z, h0⟩, List.filter_cons_of_pos (by simp [z])]
        show _ = ((s + 1 : Nat) : Int) * q (s + 1) + 0
        rw [Int.add_zero]
      · rw [if_neg (fun y => z y.1), List.filter_cons_of_neg (by simp [z])]
        rfl
  exact key n

/-! ### one pass: primes and plans from the bodies -/
def qt (d s : Int) (B : Sq) : Nat → Sq
  | 0 => fun _ => 0
  | n + 1 => fun k => if k = n + 1 then (if n = 0 then s else 0) + d * (E (qt d s B n) n + pw (n + 1) B) else qt d s B n k
def qq (d s : Int) (B : Sq) : Sq := fun k => qt d s B k k
theorem qt_stay {d s : Int} {B : Sq} {k : Nat} : ∀ {n : Nat}, k ≤ n → qt d s B n k = qq d s B k
  | 0, h => by
    have : k = 0 := by omega
    subst this
    rfl
  | n + 1, h => by
    by_cases e : k = n + 1
    · rw [e]
      rfl
    · show (if k = n + 1 then _ else qt d s B n k) = _
      rw [if_neg e, qt_stay (by omega)]
theorem qq_zero {d s : Int} {B : Sq} : qq d s B 0 = 0 := rfl
theorem qq_succ {d s : Int} {B : Sq} (n : Nat) : qq d s B (n + 1) = (if n = 0 then s else 0) + d * (E (qq d s B) n + pw (n + 1) B) := by
  show (if n + 1 = n + 1 then (if n = 0 then s else 0) + d * (E (qt d s B n) n + pw (n + 1) B) else _) = _
  rw [if_pos rfl, E_congr (q := qt d s B n) (q' := qq d s B) fun k hk => qt_stay hk]
theorem qq_congr {d s : Int} {B B' : Sq} : ∀ {n : Nat}, (∀ k, k < n → B k = B' k) → ∀ k, k ≤ n → qq d s B k = qq d s B' k := fun {n} h k => by
  induction k using Nat.strongRecOn with
  | ind k ih =>
    intro hk
    cases k with
    | zero => rfl
    | succ k =>
      rw [qq_succ, qq_succ, E_congr (q := qq d s B) (q' := qq d s B') fun j hj => ih j (by omega) (by omega), pw_congr fun j hj => h j (by omega)]
/-- plans with j passes behind -/
def PL (d : Int) : Nat → Int → Sq
  | 0, _ => fun n => if n = 0 then 1 else 0
  | j + 1, v => E (qq d v (PL d j (v + 1)))
def QL (d : Int) (j : Nat) (v : Int) : Sq := qq d v (PL d j (v + 1))
theorem PL_zero {d : Int} : ∀ {j : Nat} {v : Int}, PL d j v 0 = 1
  | 0, _ => rfl
  | _ + 1, _ => rfl
theorem PL_stay {d : Int} : ∀ {n j i : Nat} {v : Int}, n < j → n < i → PL d j v n = PL d i v n := by
  intro n
  induction n using Nat.strongRecOn with
  | ind n ih =>
    intro j i v hj hi
    obtain ⟨j, rfl⟩ : ∃ j', j = j' + 1 := ⟨j - 1, by omega⟩
    obtain ⟨i, rfl⟩ : ∃ i', i = i' + 1 := ⟨i - 1, by omega⟩
    show E (qq d v (PL d j (v + 1))) n = E (qq d v (PL d i (v + 1))) n
    refine E_congr fun k hk => qq_congr (n := n) (fun m hm => ?_) k hk
    exact ih m hm (by omega) (by omega)
theorem QL_stay {d : Int} {n j i : Nat} {v : Int} (hj : n ≤ j) (hi : n ≤ i) : QL d j v n = QL d i v n :=
  qq_congr (n := n) (fun m hm => PL_stay (by omega) (by omega)) n (Nat.le_refl _)
/-- the number of plans, of primes -/
def p (d v : Int) (n : Nat) : Int := PL d (n + 1) v n
def q (d v : Int) (n : Nat) : Int := QL d n v n
theorem PL_p {d v : Int} {n j : Nat} (h : n < j) : PL d j v n = p d v n := PL_stay h (Nat.lt_succ_self _)
theorem QL_q {d v : Int} {n j : Nat} (h : n ≤ j) : QL d j v n = q d v n := QL_stay h (Nat.le_refl _)
theorem p_zero {d v : Int} : p d v 0 = 1 := rfl
theorem q_zero {d v : Int} : q d v 0 = 0 := rfl
theorem p_E {d v : Int} (n : Nat) : p d v n = E (q d v) n := by
  show E (qq d v (PL d n (v + 1))) n = E (q d v) n
  exact E_congr fun k hk => QL_q hk
theorem q_succ {d v : Int} (n : Nat) : q d v (n + 1) = (if n = 0 then v else 0) + d * (p d v n + pw (n + 1) (p d (v + 1))) := by
  show qq d v (PL d (n + 1) (v + 1)) (n + 1) = _
  rw [qq_succ, pw_congr (B' := p d (v + 1)) fun k hk => PL_p hk]
  have e : E (qq d v (PL d (n + 1) (v + 1))) n = p d v n := by
    rw [p_E]
    exact E_congr fun k hk => QL_q (j := n + 1) (by omega)
  rw [e]
end KM
end
section
set_option Elab.async false
set_option linter.all false
set_option maxRecDepth 100000
set_option maxHeartbeats 4000000
namespace K64
open PySem PySem.Spec PyProof.Rows L2
def smallS : Str := "abcdefghijklmnopqrstuvwxyz"
/-- what the top has left -/
structure Top (K : PySem.W.Frag) (mg : Str → Option Value) : Prop where
  isinstance : mg "isinstance" = none
  int : mg "int" = none
  bool : mg "bool" = none
  str : mg "str" = none
  len : mg "len" = none
  all : mg "all" = none
  range : mg "range" = none
  sum : mg "sum" = none
  list : mg "list" = none
  enumerate : mg "enumerate" = none
  sorted : mg "sorted" = none
  set : mg "set" = none
  SMALL : ∃ t, mg "SMALL" = some (.str smallS t)
  MOST_LETTERS : ∃ t, mg "MOST_LETTERS" = some (.int 8 t)
  MOST_SIZE : ∃ t, mg "MOST_SIZE" = some (.int 60 t)
  isInteger : Dl K mg "is_integer" sIsInteger ["thing"]
  isWithin : Dl K mg "is_within" sIsWithin ["thing", "least", "most"]
  checkCount : Dl K mg "check_count" sCheckCount ["thing", "least", "most"]
  isLetters : Dl K mg "is_letters" sIsLetters ["thing"]
  checkLetters : Dl K mg "check_letters" sCheckLetters ["doors", "names"]
  checkSize : Dl K mg "check_size" sCheckSize ["thing", "least"]
  signOf : Dl K mg "sign_of" sSignOf ["number"]
  primeWaits : Dl K mg "prime_waits" sPrimeWaits ["size", "bodies"]
  counted : Dl K mg "counted" sCounted ["doors", "names", "size"]
  countOf : Dl K mg "count_of" sCountOf ["doors", "names", "size"]
  count : Dl K mg "count" sCount ["doors", "names", "size"]
  countPrimes : Dl K mg "count_primes" sCountPrimes ["doors", "names", "size"]
  withPrimes : Dl K mg "with_primes" sWithPrimes ["table", "size", "sorts"]
  countWith : Dl K mg "count_with" sCountWith ["doors", "names", "size", "many"]
  lawTape : Dl K mg "_law_tape" sLawTape ["_law_script"]
  lawPick : Dl K mg "_law_pick" sLawPick ["_law_tape_here", "_law_many"]
  lawIsInt : Dl K mg "_law_is_int" sLawIsInt ["_law_thing"]
  lawLetters : Dl K mg "_law_letters" sLawLetters ["_law_tape_here", "_law_most"]
  lawBags : Dl K mg "_law_bags" sLawBags ["_law_sorts", "_law_many"]
  lawWaits : Dl K mg "_law_waits" sLawWaits ["_law_letters_here", "_law_words", "_law_n"]
  lawDivisors : Dl K mg "_law_divisors" sLawDivisors ["_law_n"]
  lawBagSum : Dl K mg "_law_bag_sum" sLawBagSum ["_law_letters_here", "_law_words", "_law_n"]
  lawWith : Dl K mg "_law_with" sLawWith ["_law_letters_here", "_law_words", "_law_n"]
  lawModel : Dl K mg "_law_model" sLawModel ["_law_d", "_law_v", "_law_n"]
  lawGreat : Dl K mg "_law_great" sLawGreat ["_law_letters_here", "_law_words", "_law_tape_here"]
section
variable {P : Program} {w : World} {K : PySem.W.Frag} {mg : Str → Option Value} {base : Heap}

/-! ### is_integer, is_within, check_count, check_size -/
abbrev spIsInteger : Sp := mkSp (fun i : Int => [.int i]) (fun _ _ => True) (fun _ H v H' => v = .bl true ∧ H' = H)
theorem cl_isInteger (T : Top K mg) : Cl P w K mg base 1 "is_integer" spIsInteger := by
  refine T.isInteger.cal scIsInteger (fun _ => rfl) (fun f cdv A outer s H i E Q hr _ q => ?_)
  refine ⟨_, pss_one (ps_ret (pe_and (pe_callB call_isi (by rfl) T.isinstance (by decide +kernel) (pa_cons (pv 0) (pa_cons (pe_bltn (v := .ty "int") (by rfl) T.int (by decide +kernel) rfl) pa_nil)))
    (pe_one (pe_not (pe_callB call_isi (by rfl) T.isinstance (by decide +kernel) (pa_cons (pv 0) (pa_cons (pe_bltn (v := .ty "bool") (by rfl) T.bool (by decide +kernel) rfl) pa_nil))))))), ?_⟩
  refine ⟨_, rfl, _, _, _, _, true, rfl, .ty "int", ty_int, kit_ty (by decide +kernel), true, rfl, ?_⟩
  refine iteT ?_
  refine ⟨_, rfl, _, _, _, _, false, rfl, .ty "bool", ty_int, kit_ty (by decide +kernel), false, rfl, ?_⟩
  exact q _ _ ⟨rfl, rfl⟩

abbrev spIsWithin : Sp := mkSp (fun a : Int × Int × Int => [.int a.1, .int a.2.1, .int a.2.2]) (fun a _ => a.2.1 ≤ a.1 ∧ a.1 ≤ a.2.2) (fun _ H v H' => v = .bl true ∧ H' = H)
theorem cl_isWithin (T : Top K mg) : Cl P w K mg base 2 "is_within" spIsWithin := by
  have G : Cl P w K mg base 1 "is_integer" spIsInteger := cl_isInteger T
  refine T.isWithin.cal scIsWithin (fun _ => rfl) (fun f cdv A outer s H a E Q hr p q => ?_)
  obtain ⟨i, lo, hi⟩ := a
  obtain ⟨p1, p2⟩ := p
  refine ⟨_, pss_one (ps_ret (pe_and (pcl G hr (pa_cons (pv 0) pa_nil)) (pe_one (pe_chain op_le op_le (pv 1) (pv 0) (pv 2))))), ?_⟩
  refine ⟨_, rfl, i, rfl, trivial, fun v H' ⟨e1, e2⟩ => ?_⟩
  subst e1 e2
  refine ⟨true, rfl, iteT ?_⟩
  refine ⟨_, rfl, _, rfl, _, _, rfl, rfl, true, congrArg V.bl (decide_eq_true p1), iteT ⟨_, rfl, _, _, rfl, rfl, ?_⟩⟩
  exact q _ _ ⟨congrArg V.bl (decide_eq_true p2), rfl⟩

abbrev spCheck : Sp := mkSp (fun a : Int × Int × Int => [.int a.1, .int a.2.1, .int a.2.2]) (fun a _ => a.2.1 ≤ a.1 ∧ a.1 ≤ a.2.2) (fun _ H v H' => v = .non ∧ H' = H)
theorem cl_checkCount (T : Top K mg) : Cl P w K mg base 3 "check_count" spCheck := by
  have G : Cl P w K mg base 2 "is_within" spIsWithin := cl_isWithin T
  refine T.checkCount.cal scCheckCount (fun _ => rfl) (fun f cdv A outer s H a E Q hr p q => ?_)
  refine ⟨_, pss_one (ps_if (pt_not (pt_val (pcl G hr (pa_cons (pv 0) (pa_cons (pv 1) (pa_cons (pv 2) pa_nil)))))) (pss_one ps_never) pss_nil), ?_⟩
  refine ⟨_, rfl, _, rfl, _, rfl, a, rfl, p, fun v H' ⟨e1, e2⟩ => ?_⟩
  subst e1 e2
  exact ⟨true, rfl, iteF (q _ _ ⟨rfl, rfl⟩)⟩

abbrev spCheckSize : Sp := mkSp (fun a : Int × Int => [.int a.1, .int a.2]) (fun a _ => a.2 ≤ a.1 ∧ a.1 ≤ 60) (fun _ H v H' => v = .non ∧ H' = H)
theorem cl_checkSize (T : Top K mg) : Cl P w K mg base 3 "check_size" spCheckSize := by
  have G : Cl P w K mg base 2 "is_within" spIsWithin := cl_isWithin T
  obtain ⟨t, mS⟩ := T.MOST_SIZE
  refine T.checkSize.cal scCheckSize (fun _ => rfl) (fun f cdv A outer s H a E Q hr p q => ?_)
  refine ⟨_, pss_one (ps_if (pt_not (pt_val (pcl G hr (pa_cons (pv 0) (pa_cons (pv 1) (pa_cons (pe_glob (v := .int 60) rfl mS ⟨_, rfl⟩) pa_nil)))))) (pss_one ps_never) pss_nil), ?_⟩
  refine ⟨_, rfl, _, rfl, (a.1, a.2, 60), rfl, p, fun v H' ⟨e1, e2⟩ => ?_⟩
  subst e1 e2
  exact ⟨true, rfl, iteF (q _ _ ⟨rfl, rfl⟩)⟩

/-! ### sign_of -/
open KM in
abbrev spSignOf : Sp := mkSp (fun n : Nat => [.int n]) (fun n _ => n ≤ 60) (fun n H v H' => v = .int (mu n) ∧ H' = H)
open KM in
theorem cl_signOf (T : Top K mg) : Cl P w K mg base 1 "sign_of" spSignOf := by
  refine T.signOf.cal scSignOf (fun _ => rfl) (fun f cdv A outer s H n E Q hr p q => ?_)
  have nd := scSignOf.nd
  refine ⟨_, pss_cons (ps_set (i := 1) nd rfl (.inl rfl) pe_int) (pss_cons (ps_set (i := 2) nd rfl (.inl rfl) pe_int)
    (pss_cons (ps_while PassesOwn.never (pt_cmpR op_gt (pv 0) pe_int (nomark _))
      (pss_cons (ps_if (pt_cmpR op_eq (pe_op op_mod (pv 0) (pv 2)) pe_int (nomark _))
        (pss_cons (ps_aug (i := 0) nd rfl (.inl rfl) (pv 2) iop_fdiv) (pss_cons (ps_set (i := 1) nd rfl (.inl rfl) (pe_un un_neg (pv 1)))
          (pss_one (ps_if (pt_cmpR op_eq (pe_op op_mod (pv 0) (pv 2)) pe_int (nomark _)) (pss_one (ps_ret pe_int)) pss_nil)))) pss_nil)
        (pss_one (ps_aug (i := 2) nd rfl (.inl rfl) pe_int ip_add))))
      (pss_one (ps_ret (pv 1))))), ?_⟩
  refine ⟨fun m σ H' => ∃ (a b : Nat) (g : Int), σ = [some (.int a), some (.int g), some (.int b)] ∧ sgo m a b g = some (mu n) ∧ 2 ≤ b ∧ a ≤ 60 ∧ b + m = 64 ∧ H' = H, ⟨62, n, 2, 1, rfl, mu_some p, by decide, p, by decide, rfl⟩, fun m σ H' hW => ?_⟩
  obtain ⟨a, b, g, rfl, hg, hb, ha, hm, rfl⟩ := hW
  cases m with
  | zero => cases hg
  | succ m =>
    refine ⟨_, rfl, _, _, rfl, rfl, decide (1 < (a : Int)), rfl, ?_⟩
    unfold sgo at hg
    refine ite2 (fun c => ?_) (fun c => ?_)
    · have c1 : (1 : Int) < a := of_decide_eq_true c
      rw [if_neg (show ¬ a ≤ 1 by omega)] at hg
      refine ⟨fun σ H1 => ∃ (a b : Nat) (g : Int), σ = [some (.int a), some (.int g), some (.int b)] ∧ sgo m a b g = some (mu n) ∧ 2 ≤ b ∧ a ≤ 60 ∧ b + m = 64 ∧ H1 = H', fun σ' H'' h => ⟨m, Nat.lt_succ_self m, h⟩, ?_⟩
      refine ⟨_, rfl, _, rfl, _, _, rfl, rfl, (by show (0 : Int) < (b : Int); omega), rfl, _, rfl, ite2 (fun c2 => ?_) (fun c2 => ?_)⟩
      · have c3 : (a : Int) % (b : Int) = 0 := V.int.inj (of_decide_eq_true c2)
        have c4 : a % b = 0 := by omega
        rw [if_pos c4] at hg
        have hd : (a : Int) / (b : Int) = ((a / b : Nat) : Int) := rfl
        refine ⟨_, rfl, _, rfl, _, _, rfl, rfl, ⟨(by show (0 : Int) < (b : Int); omega), (by show (b : Int) < 1073741824; omega)⟩, _, rfl, _, rfl, ?_⟩
        refine ⟨_, rfl, _, rfl, _, _, rfl, rfl, (by show (0 : Int) < (b : Int); omega), rfl, _, rfl, ite2 (fun c5 => ?_) (fun c5 => ?_)⟩
        · have c6 : ((a / b : Nat) : Int) % (b : Int) = 0 := V.int.inj (of_decide_eq_true c5)
          have c7 : a / b % b = 0 := by omega
          rw [if_pos c7] at hg
          exact q _ _ ⟨congrArg V.int (Option.some.inj hg), rfl⟩
        · have c7 : ¬ a / b % b = 0 := fun z => c5 (decide_eq_true (congrArg V.int (by
            show ((a / b : Nat) : Int) % (b : Int) = 0
            omega)))
          rw [if_neg c7] at hg
          have hab : a / b ≤ 60 := Nat.le_trans (Nat.div_le_self a b) ha
          exact ⟨_, rfl, _, _, rfl, rfl, a / b, b + 1, -g, rfl, hg, by omega, hab, by omega, rfl⟩
      · have c4 : ¬ a % b = 0 := fun z => c2 (decide_eq_true (congrArg V.int (by
          show (a : Int) % (b : Int) = 0
          omega)))
        rw [if_neg c4] at hg
        exact ⟨_, rfl, _, _, rfl, rfl, a, b + 1, g, rfl, hg, by omega, ha, by omega, rfl⟩
    · have c1 : ¬ (1 : Int) < a := fun z => c (decide_eq_true z)
      rw [if_pos (show a ≤ 1 by omega)] at hg
      exact ⟨_, rfl, q _ _ ⟨congrArg V.int (Option.some.inj hg), rfl⟩⟩
end
end K64
end
section
set_option Elab.async false
set_option linter.all false
set_option maxRecDepth 100000
set_option maxHeartbeats 4000000
/-! Comprehensions whose test and element leave what stands as it is. -/
namespace K64
open PySem PySem.Spec PyProof.Rows L2
/-- what a comprehension has made behind i turns -/
def lcL (keep : Nat → Bool) (val : Nat → V) (i : Nat) : List V := ((List.range i).filter keep).map val
theorem lcL_succ (keep : Nat → Bool) (val : Nat → V) (i : Nat) : lcL keep val (i + 1) = if keep i = true then lcL keep val i ++ [val i] else lcL keep val i := by
  unfold lcL
  rw [List.range_succ, List.filter_append]
  by_cases h : keep i = true
  · rw [if_pos h, List.filter_cons_of_pos h, List.map_append]
    rfl
  · rw [if_neg h, List.filter_cons_of_neg h]
    simp
theorem lcL_len (keep : Nat → Bool) (val : Nat → V) (i : Nat) : (lcL keep val i).length ≤ i := by
  unfold lcL
  rw [List.length_map]
  have := List.length_filter_le keep (List.range i)
  rw [List.length_range] at this
  exact this
theorem lcL_all (val : Nat → V) (i : Nat) : lcL (fun _ => true) val i = (List.range i).map val := by
  unfold lcL
  rw [List.filter_eq_self.mpr (fun _ _ => rfl)]
/-- one turn: the step of both forms -/
theorem lc_turn {tt : TT} {te : TE} {σi : L2.St} {H1 H : Hp} {D : Addr} {keep : Nat → Bool} {val : Nat → V} {i : Nat} {m : Nat} (hm : i < m) (hz : m ≤ sizeLine) (hD : H1 D = none) (s : Same H1 H) (d : H D = some (.lst (lcL keep val i)))
    (ht : ∀ Q : Bool → Hp → Prop, Q (keep i) H → tt σi H Q)
    (he : keep i = true → ∀ Q : VK, (∀ H', Same H H' → Q (val i) H') → te σi H Q) :
    tt σi H fun b H3 => if b = true then te σi H3 fun y H4 => ∃ acc, H4 D = some (.lst acc) ∧ acc.length < sizeLine ∧ (fun H => Same H1 H ∧ H D = some (.lst (lcL keep val (i + 1)))) (upd H4 D (.lst (acc ++ [y]))) else (fun H => Same H1 H ∧ H D = some (.lst (lcL keep val (i + 1)))) H3 := by
  refine ht _ ?_
  by_cases k : keep i = true
  · rw [k]
    refine iteT (he k _ fun H' s' => ⟨_, s' _ _ d, ?_, ?_, ?_⟩)
    · exact Nat.lt_of_le_of_lt (lcL_len keep val i) (Nat.lt_of_lt_of_le hm hz)
    · exact same_upd_at (s.trans s') hD
    · rw [upd_same, lcL_succ, if_pos k]
  · have k' : keep i = false := by
      cases h : keep i with
      | true => exact absurd h k
      | false => rfl
    rw [k']
    refine iteF ⟨s, ?_⟩
    rw [lcL_succ, if_neg k]
    exact d
/-- over a range -/
theorem lcR {lo : Int} {n m : Nat} {j : Nat} {tt : TT} {te : TE} {vs : List Nat} {σ : L2.St} {H1 : Hp} {D : Addr} {Qd : Hp → Prop} (keep : Nat → Bool) (val : Nat → V) (hn : n = m) (hz : m ≤ sizeLine) (hD : H1 D = none)
    (hw : ∀ v, wipe ((wipe σ vs).set j (some v)) vs = wipe σ vs)
    (ht : ∀ i H, i < m → Same H1 H → ∀ Q : Bool → Hp → Prop, Q (keep i) H → tt ((wipe σ vs).set j (some (.int (lo + i)))) H Q)
    (he : ∀ i H, i < m → keep i = true → Same H1 H → ∀ Q : VK, (∀ H', Same H H' → Q (val i) H') → te ((wipe σ vs).set j (some (.int (lo + i)))) H Q)
    (hd : ∀ H, Same H1 H → H D = some (.lst (lcL keep val m)) → Qd H) :
    ∃ W : Nat → Nat → Hp → Prop, (∃ m, W 0 m (upd H1 D (.lst []))) ∧ ∀ i m H, W i m H →
      ((Itr lo n).stop i H ∧ Qd H) ∨ ((Itr lo n).go i H ∧ ∃ Nx : Hp → Prop, (∀ H', Nx H' → ∃ m', m' < m ∧ W (i + 1) m' H') ∧ ∀ x H', (Itr lo n).yld i H x H' → gName j x (wipe σ vs) H' fun σ2 H2 => wipe σ2 vs = wipe σ vs ∧ tt σ2 H2 fun b H3 =>
        if b = true then te σ2 H3 fun y H4 => ∃ acc, H4 D = some (.lst acc) ∧ acc.length < sizeLine ∧ Nx (upd H4 D (.lst (acc ++ [y]))) else Nx H3) := by
  subst hn
  refine lc_range (fun i H => Same H1 H ∧ H D = some (.lst (lcL keep val i))) ⟨same_upd hD, upd_same⟩ (fun i H hi h => ?_) (fun H h => hd H h.1 h.2)
  obtain ⟨s, d⟩ := h
  exact ⟨hw _, lc_turn hi hz hD s d (ht i H hi s) (fun k => he i H hi k s)⟩
/-- over a list that stands -/
theorem lcS {K : PySem.W.Frag} {a : Addr} {xs : List V} {j : Nat} {tt : TT} {te : TE} {vs : List Nat} {σ : L2.St} {H1 : Hp} {D : Addr} {Qd : Hp → Prop} (keep : Nat → Bool) (val : Nat → V) (hz : xs.length ≤ sizeLine) (hD : H1 D = none) (hl : SqL K H1 a xs)
    (hw : ∀ v, wipe ((wipe σ vs).set j (some v)) vs = wipe σ vs)
    (ht : ∀ i x H, xs[i]? = some x → Same H1 H → ∀ Q : Bool → Hp → Prop, Q (keep i) H → tt ((wipe σ vs).set j (some x)) H Q)
    (he : ∀ i x H, xs[i]? = some x → keep i = true → Same H1 H → ∀ Q : VK, (∀ H', Same H H' → Q (val i) H') → te ((wipe σ vs).set j (some x)) H Q)
    (hd : ∀ H, Same H1 H → H D = some (.lst (lcL keep val xs.length)) → Qd H) :
    ∃ W : Nat → Nat → Hp → Prop, (∃ m, W 0 m (upd H1 D (.lst []))) ∧ ∀ i m H, W i m H →
      ((Itl K a).stop i H ∧ Qd H) ∨ ((Itl K a).go i H ∧ ∃ Nx : Hp → Prop, (∀ H', Nx H' → ∃ m', m' < m ∧ W (i + 1) m' H') ∧ ∀ x H', (Itl K a).yld i H x H' → gName j x (wipe σ vs) H' fun σ2 H2 => wipe σ2 vs = wipe σ vs ∧ tt σ2 H2 fun b H3 =>
        if b = true then te σ2 H3 fun y H4 => ∃ acc, H4 D = some (.lst acc) ∧ acc.length < sizeLine ∧ Nx (upd H4 D (.lst (acc ++ [y]))) else Nx H3) := by
  refine lc_list (xs := xs) (fun i H => Same H1 H ∧ H D = some (.lst (lcL keep val i))) ⟨same_upd hD, upd_same⟩ (fun i H _ h => h.1.seq hl) (fun i x H hi h => ?_) (fun H h => hd H h.1 h.2)
  obtain ⟨s, d⟩ := h
  have hlt : i < xs.length := (List.getElem?_eq_some_iff.mp hi).1
  exact ⟨hw _, lc_turn hlt hz hD s d (ht i x H hi s) (fun k => he i x H hi k s)⟩
/-- over a text, sign by sign -/
theorem lcT {z : Str} {j : Nat} {tt : TT} {te : TE} {vs : List Nat} {σ : L2.St} {H1 : Hp} {D : Addr} {Qd : Hp → Prop} (keep : Nat → Bool) (val : Nat → V) (hz : z.cps.size ≤ sizeLine) (hD : H1 D = none)
    (hw : ∀ v, wipe ((wipe σ vs).set j (some v)) vs = wipe σ vs)
    (ht : ∀ i c H, z.cps[i]? = some c → Same H1 H → ∀ Q : Bool → Hp → Prop, Q (keep i) H → tt ((wipe σ vs).set j (some (.str ⟨#[c]⟩))) H Q)
    (he : ∀ i c H, z.cps[i]? = some c → keep i = true → Same H1 H → ∀ Q : VK, (∀ H', Same H H' → Q (val i) H') → te ((wipe σ vs).set j (some (.str ⟨#[c]⟩))) H Q)
    (hd : ∀ H, Same H1 H → H D = some (.lst (lcL keep val z.cps.size)) → Qd H) :
    ∃ W : Nat → Nat → Hp → Prop, (∃ m, W 0 m (upd H1 D (.lst []))) ∧ ∀ i m H, W i m H →
      ((Its z).stop i H ∧ Qd H) ∨ ((Its z).go i H ∧ ∃ Nx : Hp → Prop, (∀ H', Nx H' → ∃ m', m' < m ∧ W (i + 1) m' H') ∧ ∀ x H', (Its z).yld i H x H' → gName j x (wipe σ vs) H' fun σ2 H2 => wipe σ2 vs = wipe σ vs ∧ tt σ2 H2 fun b H3 =>
        if b = true then te σ2 H3 fun y H4 => ∃ acc, H4 D = some (.lst acc) ∧ acc.length < sizeLine ∧ Nx (upd H4 D (.lst (acc ++ [y]))) else Nx H3) := by
  refine ⟨fun i m H => m = z.cps.size - i ∧ i ≤ z.cps.size ∧ Same H1 H ∧ H D = some (.lst (lcL keep val i)), ⟨z.cps.size, by simp, Nat.zero_le _, same_upd hD, upd_same⟩, ?_⟩
  rintro i m H ⟨rfl, hi, s, d⟩
  by_cases hlt : i < z.cps.size
  · refine .inr ⟨hlt, fun H => Same H1 H ∧ H D = some (.lst (lcL keep val (i + 1))), fun H' p' => ⟨z.cps.size - (i + 1), by omega, rfl, hlt, p'⟩, fun x H' y => ?_⟩
    obtain ⟨e, c, hc, hx⟩ := y
    subst e hx
    exact ⟨hw _, lc_turn hlt hz hD s d (ht i c H' hc s) (fun k => he i c H' hc k s)⟩
  · have e : i = z.cps.size := by omega
    subst e
    exact .inl ⟨Nat.le_refl _, hd H s d⟩
/-- for i, x in enumerate(a list that stands) -/
theorem for_enum {K : PySem.W.Frag} {a : Addr} {xs : List V} {i j : Nat} {tb : TS} {D : Ends} {σ : L2.St} {H : Hp} (Pv : Nat → L2.St → Hp → Prop) (h0 : Pv 0 σ H) (hq : ∀ k σ H, k ≤ xs.length → Pv k σ H → SqL K H a xs)
    (hs : ∀ k x T σ H, xs[k]? = some x → Pv k σ H → H T = none → tb { D with nx := Pv (k + 1), ct := Pv (k + 1), bk := D.nx } ((σ.set i (some (.int (k : Nat)))).set j (some x)) (upd H T (.tup [.int (k : Nat), x])))
    (hd : ∀ σ H, Pv xs.length σ H → D.nx σ H) :
    ∃ W : Nat → Nat → L2.St → Hp → Prop, (∃ m, W 0 m σ H) ∧ ∀ k m σ H, W k m σ H →
      ((Ite K a).stop k H ∧ D.nx σ H) ∨ ((Ite K a).go k H ∧ ∃ N : L2.St → Hp → Prop, (∀ σ' H', N σ' H' → ∃ m', m' < m ∧ W (k + 1) m' σ' H') ∧ ∀ x H', (Ite K a).yld k H x H' → gTup K 2 (gCons (gName i) (gCons (gName j) gNil)) x σ H' fun σ2 H2 => tb { D with nx := N, ct := N, bk := D.nx } σ2 H2) := by
  refine ⟨fun k m σ H => m = xs.length - k ∧ k ≤ xs.length ∧ Pv k σ H, ⟨xs.length, by simp, Nat.zero_le _, h0⟩, ?_⟩
  rintro k m σ H ⟨rfl, hk, p⟩
  have q := hq k σ H hk p
  by_cases hlt : k < xs.length
  · refine .inr ⟨⟨xs, xs[k], q, by simp [hlt]⟩, Pv (k + 1), fun σ' H' p' => ⟨xs.length - (k + 1), by omega, rfl, hlt, p'⟩, fun y H' hy => ?_⟩
    obtain ⟨T, x, rfl, nT, rfl, hx⟩ := hy
    exact ⟨T, _, rfl, hereT upd_same, rfl, _, _, rfl, _, _, rfl, rfl, hs k x T σ H (hx xs q) p nT⟩
  · have e : k = xs.length := by omega
    subst e
    exact .inl ⟨⟨xs, q, Nat.le_refl _⟩, hd σ H p⟩
/-- a range whose number of turns is told otherwise -/
theorem forR {lo : Int} {n m : Nat} {g : TG} {tb : TS} {D : Ends} {σ : L2.St} {H : Hp} (hn : n = m) (Pv : Nat → L2.St → Hp → Prop) (h0 : Pv 0 σ H)
    (hs : ∀ i σ H, i < m → Pv i σ H → g (.int (lo + i)) σ H fun σ2 H2 => tb { D with nx := Pv (i + 1), ct := Pv (i + 1), bk := D.nx } σ2 H2) (hd : ∀ σ H, Pv m σ H → D.nx σ H) :
    ∃ W : Nat → Nat → L2.St → Hp → Prop, (∃ m, W 0 m σ H) ∧ ∀ i m σ H, W i m σ H →
      ((Itr lo n).stop i H ∧ D.nx σ H) ∨ ((Itr lo n).go i H ∧ ∃ N : L2.St → Hp → Prop, (∀ σ' H', N σ' H' → ∃ m', m' < m ∧ W (i + 1) m' σ' H') ∧ ∀ x H', (Itr lo n).yld i H x H' → g x σ H' fun σ2 H2 => tb { D with nx := N, ct := N, bk := D.nx } σ2 H2) := by
  subst hn
  exact for_range Pv h0 hs hd
/-- a yes-test -/
theorem yes_ok {σ : L2.St} {H : Hp} : ∀ Q : Bool → Hp → Prop, Q true H → tYes σ H Q := fun _ q => q
end K64
end
section
set_option Elab.async false
set_option linter.all false
set_option maxRecDepth 100000
set_option maxHeartbeats 4000000
namespace K64
open PySem PySem.Spec PyProof.Rows L2 KM
/-- a list of ints as values -/
abbrev vI (ns : List Int) : List V := ns.map V.int
theorem map_int (f : Nat → Int) (ks : List Nat) : ks.map (fun k => V.int (f k)) = vI (ks.map f) := by
  unfold vI
  rw [List.map_map]
  rfl
/-- the divisors by turns -/
theorem divs_turns (n : Nat) (f : Nat → V) : lcL (fun i => decide (n % (i + 1) = 0)) (fun i => f (i + 1)) n = (divs n).map f := by
  unfold lcL divs
  rw [List.filter_map, List.map_map]
  congr 1
theorem at_vI {ns : List Int} {i : Nat} {x : Int} (h : ns[i]? = some x) : atI (vI ns) (i : Int) = some (.int x) := atI_nat (by
  rw [List.getElem?_map, h]
  rfl)
theorem dmod (n i : Nat) : decide (V.int ((n : Int) % (1 + (i : Int))) = V.int 0) = decide (n % (i + 1) = 0) := by
  have e1 : (1 : Int) + (i : Int) = ((i + 1 : Nat) : Int) := by omega
  rw [e1]
  exact decide_eq_decide.mpr ⟨fun z => by
    have := V.int.inj z
    omega, fun z => congrArg V.int (by omega)⟩
section
variable {P : Program} {w : World} {K : PySem.W.Frag} {mg : Str → Option Value} {base : Heap}
/-! ### prime_waits -/
abbrev spPrimeWaits (K : PySem.W.Frag) : Sp := mkSp (fun a : Nat × Addr × List Int => [.int a.1, .ref a.2.1]) (fun a H => a.1 ≤ 60 ∧ SqL K H a.2.1 (vI a.2.2) ∧ a.1 ≤ a.2.2.length)
  (fun a H v H' => v = .int (pw a.1 fun k => a.2.2.getD k 0) ∧ Same H H')
theorem cl_primeWaits (T : Top K mg) : Cl P w K mg base 2 "prime_waits" (spPrimeWaits K) := by
  have G : Cl P w K mg base 1 "sign_of" spSignOf := cl_signOf T
  refine T.primeWaits.cal scPrimeWaits (fun _ => rfl) (fun f cdv A outer s H a E Q hr p q => ?_)
  obtain ⟨n, b, bs⟩ := a
  obtain ⟨hn, hb, hl⟩ := p
  have nd := scPrimeWaits.nd
  refine ⟨_, pss_one (ps_ret (pe_callB (cr_sum rfl) (by rfl) T.sum (by decide +kernel) (pa_cons
    (pe_lc (own := [("k", 2)]) (g := gName 2) (by rfl) nd (pi_range2 (by rfl) T.range (pa_cons pe_int (pa_cons (pe_op op_add (pv 0) pe_int) pa_nil))) (blkOk_by (N := ["size", "bodies", "k"]) (sc := defScope sPrimeWaits) (by decide +kernel)) (fun _ _ _ _ _ => pg_name (i := 2) nd rfl (Or.inl rfl))
      (fun _ _ _ _ _ => pts_one (pt_cmpR op_eq (pe_op op_mod (pv 0) (pv 2)) pe_int (nomark _)))
      (fun _ _ _ _ _ => pe_op op_mul (pcl G hr (pa_cons (pv 2) pa_nil)) (pe_ix (r := rIxL K) ix_list (pv 1) (pe_op op_sub (pe_op op_fdiv (pv 0) (pv 2)) pe_int) (fun _ _ => rfl)))) pa_nil))), ?_⟩
  refine ⟨_, rfl, _, _, rfl, rfl, _, _, rfl, ⟨by omega, by omega, by omega, by omega⟩, fun D nD => ?_⟩
  refine lcR (m := n) (fun i => decide (n % (i + 1) = 0)) (fun i => .int (mu (i + 1) * bs.getD (n / (i + 1) - 1) 0)) (by omega) (line1000 (by omega)) nD (fun _ => rfl) (fun i H1 hi s1 R r => ?_) (fun i H1 hi hk s1 R r => ?_) (fun H1 s1 e => ?_)
  · refine ⟨_, rfl, _, rfl, _, _, rfl, rfl, (by show (0 : Int) < 1 + (i : Int); omega), rfl, _, rfl, ?_⟩
    rw [show decide (V.int ((n : Int) % (1 + (i : Int))) = V.int 0) = decide (n % (i + 1) = 0) from dmod n i]
    exact r
  · have hk' : n % (i + 1) = 0 := of_decide_eq_true hk
    have e1 : (1 : Int) + (i : Int) = ((i + 1 : Nat) : Int) := by omega
    refine ⟨_, rfl, i + 1, ?_, by omega, fun v H2 ⟨ev, eH⟩ => ?_⟩
    · show [V.int (1 + (i : Int))] = [V.int ((i + 1 : Nat) : Int)]
      rw [e1]
    subst ev eH
    have h1 : 1 ≤ n / (i + 1) := (Nat.le_div_iff_mul_le (Nat.succ_pos i)).mpr (by omega)
    have h2 : n / (i + 1) ≤ n := Nat.div_le_self _ _
    have hl2 : n ≤ bs.length := hl
    have hlt : n / (i + 1) - 1 < bs.length := by omega
    have hm := mu_le (n := i + 1) (by omega)
    refine ⟨_, rfl, _, rfl, _, rfl, _, _, rfl, rfl, ⟨by omega, by omega⟩, _, _, rfl, rfl, b, _, ((n / (i + 1) - 1 : Nat) : Int), _, rfl, ?_, (s1.seq hb), at_vI (List.getElem?_eq_getElem hlt), mu (i + 1), _, rfl, rfl, .inl ⟨by omega, by omega⟩, ?_⟩
    · show V.int ((n : Int) / (1 + (i : Int)) - 1) = _
      rw [e1]
      congr 1
      have : (n : Int) / ((i + 1 : Nat) : Int) = ((n / (i + 1) : Nat) : Int) := rfl
      omega
    · have : bs[n / (i + 1) - 1] = bs.getD (n / (i + 1) - 1) 0 := by
        rw [List.getD_eq_getElem?_getD, List.getElem?_eq_getElem hlt]
        rfl
      rw [this]
      exact r _ (Same.refl _)
  · rw [divs_turns n (fun k => .int (mu k * bs.getD (n / k - 1) 0)), map_int] at e
    exact ⟨D, _, rfl, hereL e, q _ _ ⟨rfl, s1⟩⟩
end
end K64
end
section
set_option linter.all false
set_option maxRecDepth 100000
set_option Elab.async false
namespace KM
/-! ### how large the numbers are -/
theorem sm_abs {f : Nat → Int} {M : Nat} : ∀ n, (∀ k, k < n → (f k).natAbs ≤ M) → (sm f n).natAbs ≤ n * M
  | 0, _ => by
    show (0 : Int).natAbs ≤ 0 * M
    simp
  | n + 1, h => by
    have h1 := sm_abs n fun k hk => h k (by omega)
    have h2 := h n (by omega)
    show (sm f n + f n).natAbs ≤ (n + 1) * M
    have h3 := Int.natAbs_add_le (sm f n) (f n)
    rw [Nat.add_mul, Nat.one_mul]
    omega
theorem sum_abs {f : Nat → Int} {M : Nat} : ∀ ks : List Nat, (∀ k ∈ ks, (f k).natAbs ≤ M) → ((ks.map f).sum).natAbs ≤ ks.length * M
  | [], _ => by simp
  | k :: ks, h => by
    have h1 := sum_abs ks fun j hj => h j (List.mem_cons_of_mem _ hj)
    have h2 := h k List.mem_cons_self
    rw [List.map_cons, List.sum_cons, List.length_cons, Nat.add_mul, Nat.one_mul]
    have h3 := Int.natAbs_add_le (f k) ((ks.map f).sum)
    omega
theorem divs_len (n : Nat) : (divs n).length ≤ n := by
  unfold divs
  have := List.length_filter_le (fun k => n % k == 0) ((List.range n).map (· + 1))
  rw [List.length_map, List.length_range] at this
  exact this
theorem pw_abs {B : Sq} {M n : Nat} (hn : n ≤ 60) (h : ∀ k, k < n → (B k).natAbs ≤ M) : (pw n B).natAbs ≤ 60 * M := by
  unfold pw
  refine Nat.le_trans (sum_abs (M := M) _ fun k hk => ?_) (Nat.mul_le_mul_right M (Nat.le_trans (divs_len n) hn))
  obtain ⟨h1, h2, h3⟩ := mem_divs.mp hk
  have h4 : 1 ≤ n / k := (Nat.le_div_iff_mul_le h1).mpr (by omega)
  have h5 : n / k ≤ n := Nat.div_le_self n k
  rw [Int.natAbs_mul]
  have h6 := mu_le (n := k) (by omega)
  have h7 := h (n / k - 1) (by omega)
  calc (mu k).natAbs * (B (n / k - 1)).natAbs ≤ 1 * M := Nat.mul_le_mul h6 h7
    _ = M := Nat.one_mul M
theorem pow_mono {a b : Nat} (h : a ≤ b) : 2 ^ a ≤ 2 ^ b := Nat.pow_le_pow_right (by decide) h
/-- all bounds at once, by sizes -/
theorem p_abs {d : Int} (hd : 0 ≤ d) (hd8 : d ≤ 8) : ∀ (n : Nat) (v : Int), n ≤ 60 → 0 ≤ v → v + n ≤ 128 → (p d v n).natAbs ≤ 2 ^ (31 * n) := by
  intro n
  induction n using Nat.strongRecOn with
  | ind n ih =>
    intro v hn hv hvn
    cases n with
    | zero =>
      rw [p_zero]
      decide
    | succ n =>
      -- the primes
      have hq : ∀ k, k ≤ n → (q d v (k + 1)).natAbs ≤ 2 ^ (31 * k + 10) := fun k hk => by
        have h1 := ih k (by omega) v (by omega) hv (by omega)
        have h2 : (pw (k + 1) (p d (v + 1))).natAbs ≤ 60 * 2 ^ (31 * k) := pw_abs (by omega) fun j hj =>
          Nat.le_trans (ih j (by omega) (v + 1) (by omega) (by omega) (by omega)) (pow_mono (by omega))
        rw [q_succ]
        have h3 : (d * (p d v k + pw (k + 1) (p d (v + 1)))).natAbs ≤ 8 * (61 * 2 ^ (31 * k)) := by
          rw [Int.natAbs_mul]
          refine Nat.mul_le_mul (by omega) ?_
          have := Int.natAbs_add_le (p d v k) (pw (k + 1) (p d (v + 1)))
          omega
        have h4 : ((if k = 0 then v else 0 : Int)).natAbs ≤ 128 := by
          split <;> omega
        have h5 := Int.natAbs_add_le (if k = 0 then v else 0) (d * (p d v k + pw (k + 1) (p d (v + 1))))
        have h6 : 1 ≤ 2 ^ (31 * k) := Nat.one_le_two_pow
        rw [Nat.pow_add]
        omega
      have hW : ∀ k, k ≤ n → (W (q d v) (k + 1)).natAbs ≤ 2 ^ (31 * k + 22) := fun k hk => by
        rw [W_divs _ (Nat.succ_pos k)]
        refine Nat.le_trans (sum_abs (M := 60 * 2 ^ (31 * k + 10)) _ fun j hj => ?_) ?_
        · obtain ⟨h1, h2, h3⟩ := mem_divs.mp hj
          obtain ⟨j, rfl⟩ : ∃ i, j = i + 1 := ⟨j - 1, by omega⟩
          rw [Int.natAbs_mul]
          refine Nat.mul_le_mul (by omega) (Nat.le_trans (hq j (by omega)) (pow_mono (by omega)))
        · have h1 := divs_len (k + 1)
          refine Nat.le_trans (Nat.mul_le_mul_right _ (show (divs (k + 1)).length ≤ 60 by omega)) ?_
          rw [Nat.pow_add, Nat.pow_add]
          generalize 2 ^ (31 * k) = z
          omega
      have e := E_rec (q d v) (n + 1)
      have e2 : conv (W (q d v)) (E (q d v)) (n + 1) = conv (fun k => W (q d v) (k + 1)) (E (q d v)) n := by
        show W (q d v) 0 * E (q d v) (n + 1) + conv (fun k => W (q d v) (k + 1)) (E (q d v)) n = _
        rw [W_zero, Int.zero_mul, Int.zero_add]
      rw [e2, conv_sm] at e
      have h1 : (sm (fun k => W (q d v) (k + 1) * E (q d v) (n - k)) (n + 1)).natAbs ≤ (n + 1) * 2 ^ (31 * n + 22) := sm_abs _ fun k hk => by
        rw [Int.natAbs_mul, ← p_E]
        have h2 := hW k (by omega)
        have h3 := ih (n - k) (by omega) v (by omega) hv (by omega)
        refine Nat.le_trans (Nat.mul_le_mul h2 h3) ?_
        rw [← Nat.pow_add]
        exact pow_mono (by omega)
      rw [← e, Int.natAbs_mul, ← p_E] at h1
      have h4 : (p d v (n + 1)).natAbs ≤ ((n + 1 : Nat) : Int).natAbs * (p d v (n + 1)).natAbs := Nat.le_mul_of_pos_left _ (by omega)
      have h5 : (n + 1) * 2 ^ (31 * n + 22) ≤ 2 ^ (31 * (n + 1)) := by
        rw [show 31 * (n + 1) = 31 * n + 22 + 9 by omega, Nat.pow_add 2 (31 * n + 22) 9]
        rw [Nat.mul_comm]
        exact Nat.mul_le_mul_left _ (by show n + 1 ≤ 512; omega)
      omega
theorem q_abs {d : Int} (hd : 0 ≤ d) (hd8 : d ≤ 8) {k : Nat} {v : Int} (hk : k ≤ 59) (hv : 0 ≤ v) (hvn : v + k ≤ 127) : (q d v (k + 1)).natAbs ≤ 2 ^ (31 * k + 10) := by
  have h1 := p_abs hd hd8 k v (by omega) hv (by omega)
  have h2 : (pw (k + 1) (p d (v + 1))).natAbs ≤ 60 * 2 ^ (31 * k) := pw_abs (by omega) fun j hj =>
    Nat.le_trans (p_abs hd hd8 j (v + 1) (by omega) (by omega) (by omega)) (pow_mono (by omega))
  rw [q_succ]
  have h3 : (d * (p d v k + pw (k + 1) (p d (v + 1)))).natAbs ≤ 8 * (61 * 2 ^ (31 * k)) := by
    rw [Int.natAbs_mul]
    refine Nat.mul_le_mul (by omega) ?_
    have := Int.natAbs_add_le (p d v k) (pw (k + 1) (p d (v + 1)))
    omega
  have h4 : ((if k = 0 then v else 0 : Int)).natAbs ≤ 128 := by
    split <;> omega
  have h5 := Int.natAbs_add_le (if k = 0 then v else 0) (d * (p d v k + pw (k + 1) (p d (v + 1))))
  have h6 : 1 ≤ 2 ^ (31 * k) := Nat.one_le_two_pow
  rw [Nat.pow_add]
  omega
theorem W_abs {d : Int} (hd : 0 ≤ d) (hd8 : d ≤ 8) {k : Nat} {v : Int} (hk : k ≤ 59) (hv : 0 ≤ v) (hvn : v + k ≤ 127) : (W (q d v) (k + 1)).natAbs ≤ 2 ^ (31 * k + 22) := by
  rw [W_divs _ (Nat.succ_pos k)]
  refine Nat.le_trans (sum_abs (M := 60 * 2 ^ (31 * k + 10)) _ fun j hj => ?_) ?_
  · obtain ⟨h1, h2, h3⟩ := mem_divs.mp hj
    obtain ⟨j, rfl⟩ : ∃ i, j = i + 1 := ⟨j - 1, by omega⟩
    rw [Int.natAbs_mul]
    refine Nat.mul_le_mul (by omega) (Nat.le_trans (q_abs hd hd8 (by omega) hv (by omega)) (pow_mono (by omega)))
  · have h1 := divs_len (k + 1)
    refine Nat.le_trans (Nat.mul_le_mul_right _ (show (divs (k + 1)).length ≤ 60 by omega)) ?_
    rw [Nat.pow_add, Nat.pow_add]
    generalize 2 ^ (31 * k) = z
    omega
theorem lt_pow {x : Int} {a b : Nat} (h : x.natAbs ≤ 2 ^ a) (hab : a < b) : x.natAbs < 2 ^ b := Nat.lt_of_le_of_lt h (Nat.pow_lt_pow_right (by decide) hab)
/-- the step of the plans -/
theorem p_step (d v : Int) (n : Nat) : sm (fun k => W (q d v) (k + 1) * p d v (n - k)) (n + 1) / ((n + 1 : Nat) : Int) = p d v (n + 1) := by
  rw [p_E, ← E_step, conv_sm]
  congr 1
  exact sm_congr _ fun k _ => by rw [p_E]
end KM
end
section
set_option Elab.async false
set_option linter.all false
set_option maxRecDepth 100000
set_option maxHeartbeats 4000000
namespace K64
open PySem PySem.Spec PyProof.Rows L2 KM
/-- the first n values of a sequence -/
def firsts (f : Sq) (n : Nat) : List Int := (List.range n).map f
theorem firsts_len (f : Sq) (n : Nat) : (firsts f n).length = n := by
  unfold firsts
  rw [List.length_map, List.length_range]
theorem firsts_succ (f : Sq) (n : Nat) : firsts f n ++ [f n] = firsts f (n + 1) := by
  unfold firsts
  rw [List.range_succ, List.map_append]
  rfl
theorem firsts_at {f : Sq} {n k : Nat} (h : k < n) : (firsts f n)[k]? = some (f k) := by
  unfold firsts
  rw [List.getElem?_map, List.getElem?_range h]
  rfl
theorem firsts_getD {f : Sq} {n k : Nat} (h : k < n) : (firsts f n).getD k 0 = f k := by
  rw [List.getD_eq_getElem?_getD, firsts_at h]
  rfl
theorem vI_app (xs : List Int) (x : Int) : vI xs ++ [.int x] = vI (xs ++ [x]) := by
  unfold vI
  rw [List.map_append]
  rfl
theorem vI_len (xs : List Int) : (vI xs).length = xs.length := by
  unfold vI
  rw [List.length_map]
theorem at_firsts {f : Sq} {n k : Nat} (h : k < n) : atI (vI (firsts f n)) (k : Int) = some (.int (f k)) := at_vI (firsts_at h)
theorem at_firsts' {f : Sq} {n k : Nat} {i : Int} (h : k < n) (e : i = (k : Int)) : atI (vI (firsts f n)) i = some (.int (f k)) := by
  rw [e]
  exact at_firsts h
theorem sum_vals (f : Nat → Int) (n : Nat) : lcL (fun _ => true) (fun i => V.int (f i)) n = vI ((List.range n).map f) := by
  rw [lcL_all, map_int]
/-- what passes have made: behind i turns, from the deepest waits out -/
def upTo (f : Sq) (i : Nat) : List Int := firsts f (max i 1)
section
variable {P : Program} {w : World} {K : PySem.W.Frag} {mg : Str → Option Value} {base : Heap}
/-- the inner turns: where plans, primes, weights stand -/
def CIn (K : PySem.W.Frag) (H : Hp) (d v n b a c e : Nat) (bs : List Int) (v' : Int) (dep : Int) (j : Nat) (σ : L2.St) (H' : Hp) : Prop :=
  ∃ y8 y9 y10, σ = [some (.int d), some (.int v), some (.int n), some (.ref a), some (.ref c), some (.int dep), some (.ref b), some (.ref e), y8, y9, y10] ∧ Same H H' ∧ H a = none ∧ H c = none ∧ H e = none ∧
    a ≠ c ∧ a ≠ e ∧ c ≠ e ∧ b ≠ a ∧ b ≠ c ∧ b ≠ e ∧ H' b = some (.lst (vI bs)) ∧ H' a = some (.lst (vI (firsts (p d v') (j + 1)))) ∧ H' c = some (.lst (vI (firsts (q d v') (j + 1)))) ∧ H' e = some (.lst (vI (firsts (W (q d v')) (j + 1))))
abbrev spCounted : Sp := mkSp (fun a : Nat × Nat × Nat => [.int a.1, .int a.2.1, .int a.2.2]) (fun a _ => a.1 ≤ 8 ∧ a.2.1 ≤ 8 ∧ a.2.2 ≤ 60)
  (fun a H r H' => ∃ t x y, r = .ref t ∧ Same H H' ∧ H' t = some (.tup [.ref x, .ref y]) ∧ H' x = some (.lst (vI (firsts (p a.1 a.2.1) (a.2.2 + 1)))) ∧ H' y = some (.lst (vI (firsts (q a.1 a.2.1) (a.2.2 + 1)))))
theorem cl_counted (T : Top K mg) : Cl P w K mg base 3 "counted" spCounted := by
  have G_primeWaits : Cl P w K mg base 2 "prime_waits" (spPrimeWaits K) := cl_primeWaits T
  refine T.counted.cal scCounted (fun _ => rfl) (fun f cdv A outer s H a E Q hr pre post => ?_)
  obtain ⟨d, v, n⟩ := a
  obtain ⟨hd, hv, hn⟩ := pre
  have hd : d ≤ 8 := hd
  have hv : v ≤ 8 := hv
  have hn : n ≤ 60 := hn
  have nd := scCounted.nd
  refine ⟨_, (pss_cons (ps_set (i := 3) nd rfl (.inr rfl) (pe_lst (pa_cons pe_int pa_nil)))
      (pss_cons (ps_set (i := 4) nd rfl (.inr rfl) (pe_lst (pa_cons pe_int pa_nil)))
      (pss_cons (ps_for PassesOwn.never rfl (pi_range3 (by rfl) T.range (pa_cons (pv 2) (pa_cons (pe_un un_neg pe_int) (pa_cons (pe_un un_neg pe_int) pa_nil)))) (pg_name (i := 5) nd rfl (.inl rfl)) (pss_cons (ps_set (i := 6) nd rfl (.inl rfl) (pv 3))
      (pss_cons (ps_set (i := 3) nd rfl (.inr rfl) (pe_lst (pa_cons pe_int pa_nil)))
      (pss_cons (ps_set (i := 4) nd rfl (.inr rfl) (pe_lst (pa_cons pe_int pa_nil)))
      (pss_cons (ps_set (i := 7) nd rfl (.inr rfl) (pe_lst (pa_cons pe_int pa_nil)))
      (pss_one (ps_for PassesOwn.never rfl (pi_range2 (by rfl) T.range (pa_cons pe_int (pa_cons (pe_op op_add (pe_op op_sub (pv 2) (pv 5)) pe_int) pa_nil))) (pg_name (i := 8) nd rfl (.inr rfl)) (pss_cons (ps_set (i := 9) nd rfl (.inl rfl) (pe_ifExp (pt_cmpR op_eq (pv 8) pe_int (nomark _)) (pe_op op_add (pv 1) (pv 5)) pe_int))
      (pss_cons (ps_expr (pe_bm PySem.F.plainAttrs_list PySem.F.slot_list_append PySem.F.type_list_append mt_append (pv 4) (pa_cons (pe_op op_add (pv 9) (pe_op op_mul (pv 0) (pe_op op_add (pe_ix (r := rIxL K) ix_list (pv 3) (pe_op op_sub (pv 8) pe_int) (fun _ _ => rfl)) (pcl G_primeWaits hr (pa_cons (pv 8) (pa_cons (pv 6) pa_nil)))))) pa_nil)))
      (pss_cons (ps_expr (pe_bm PySem.F.plainAttrs_list PySem.F.slot_list_append PySem.F.type_list_append mt_append (pv 7) (pa_cons (pe_callB (r := rSum K) (cr_sum rfl) (by rfl) T.sum (by decide +kernel) (pa_cons (pe_lc (own := [("k", 10)]) (g := gName 10) (by rfl) nd (pi_range2 (by rfl) T.range (pa_cons pe_int (pa_cons (pe_op op_add (pv 8) pe_int) pa_nil))) (blkOk_by (N := ["doors", "names", "size", "plans", "primes", "depth", "bodies", "weights", "n", "simple", "k"]) (sc := defScope sCounted) (by decide +kernel)) (fun _ _ _ _ _ => (pg_name (i := 10) nd rfl (Or.inl rfl))) (fun _ _ _ _ _ => (pts_one (pt_cmpR op_eq (pe_op op_mod (pv 8) (pv 10)) pe_int (nomark _)))) (fun _ _ _ _ _ => (pe_op op_mul (pv 10) (pe_ix (r := rIxL K) ix_list (pv 4) (pv 10) (fun _ _ => rfl))))) pa_nil)) pa_nil)))
      (pss_one (ps_expr (pe_bm PySem.F.plainAttrs_list PySem.F.slot_list_append PySem.F.type_list_append mt_append (pv 3) (pa_cons (pe_op op_fdiv (pe_callB (r := rSum K) (cr_sum rfl) (by rfl) T.sum (by decide +kernel) (pa_cons (pe_lc (own := [("k", 10)]) (g := gName 10) (by rfl) nd (pi_range2 (by rfl) T.range (pa_cons pe_int (pa_cons (pe_op op_add (pv 8) pe_int) pa_nil))) (blkOk_by (N := ["doors", "names", "size", "plans", "primes", "depth", "bodies", "weights", "n", "simple", "k"]) (sc := defScope sCounted) (by decide +kernel)) (fun _ _ _ _ _ => (pg_name (i := 10) nd rfl (Or.inl rfl))) (fun _ _ _ _ _ => pts_nil) (fun _ _ _ _ _ => (pe_op op_mulW (pe_ix (r := rIxL K) ix_list (pv 7) (pv 10) (fun _ _ => rfl)) (pe_ix (r := rIxL K) ix_list (pv 3) (pe_op op_sub (pv 8) (pv 10)) (fun _ _ => rfl))))) pa_nil)) (pv 8)) pa_nil))))))))))))))
      (pss_one (ps_ret (pe_tup (pa_cons (pv 3) (pa_cons (pv 4) pa_nil)))))))), ?_⟩
  -- plans = [1]; primes = [0]
  refine ⟨by decide, fun a na => ?_⟩
  refine ⟨by decide, fun c nc => ?_⟩
  have sa : Same H (upd H a (.lst [.int 1])) := same_upd na
  have sc : Same H (upd (upd H a (.lst [.int 1])) c (.lst [.int 0])) := sa.trans (same_upd nc)
  have hca : a ≠ c := fun e => by
    rw [← e, upd_same] at nc
    cases nc
  refine ⟨_, rfl, 1, rfl, 1, rfl, (n : Int), -1, -1, n + 1, rfl, ⟨by decide, by decide, PySem.W.small_down (by omega) (by omega) (by omega) (by omega), by
    rw [PySem.W.rangeSize_downNat (n : Int) (-1)]
    omega⟩, ?_⟩
  refine for_rangeC (fun i σ H1 => ∃ a c y5 y6 y7 y8 y9 y10, σ = [some (.int d), some (.int v), some (.int n), some (.ref a), some (.ref c), y5, y6, y7, y8, y9, y10] ∧ Same H H1 ∧ a ≠ c ∧
    H1 a = some (.lst (vI (upTo (p d ((v : Int) + n - i + 1)) i))) ∧ H1 c = some (.lst (vI (upTo (q d ((v : Int) + n - i + 1)) i)))) ⟨a, c, none, none, none, none, none, none, rfl, sc, hca, ?_, upd_same⟩ (fun i σ H1 hi hP => ?_) (fun σ H1 hP => ?_)
  · rw [upd_ne hca, upd_same]
    rfl
  · -- one pass
    obtain ⟨a, c, y5, y6, y7, y8, y9, y10, rfl, s1, hac, ea, ec⟩ := hP
    refine ⟨_, rfl, ?_⟩
    refine ⟨by decide, fun a' na => ⟨by decide, fun c' nc => ⟨by decide, fun e' ne => ?_⟩⟩⟩
    have haa : a ≠ a' := ne_of_none ea na
    have eac : (upd H1 a' (.lst [.int 1])) a = some (.lst (vI (upTo (p d ((v : Int) + n - i + 1)) i))) := by
      rw [upd_ne haa]
      exact ea
    have hac' : a ≠ c' := ne_of_none eac nc
    have ea2 : (upd H1 a' (.lst [.int 1])) a' = some (.lst [.int 1]) := upd_same
    have haac : a' ≠ c' := ne_of_none ea2 nc
    have ea3 : (upd (upd H1 a' (.lst [.int 1])) c' (.lst [.int 0])) a = some (.lst (vI (upTo (p d ((v : Int) + n - i + 1)) i))) := by
      rw [upd_ne hac']
      exact eac
    have hae' : a ≠ e' := ne_of_none ea3 ne
    have ea4 : (upd (upd H1 a' (.lst [.int 1])) c' (.lst [.int 0])) a' = some (.lst [.int 1]) := by
      rw [upd_ne haac]
      exact ea2
    have haae : a' ≠ e' := ne_of_none ea4 ne
    have ec4 : (upd (upd H1 a' (.lst [.int 1])) c' (.lst [.int 0])) c' = some (.lst [.int 0]) := upd_same
    have hce : c' ≠ e' := ne_of_none ec4 ne
    have sA : Same H (upd H1 a' (.lst [.int 1])) := s1.trans (same_upd na)
    have sC : Same H (upd (upd H1 a' (.lst [.int 1])) c' (.lst [.int 0])) := sA.trans (same_upd nc)
    have Ha : H a' = none := s1.free na
    have Hc : H c' = none := sA.free nc
    have He : H e' = none := sC.free ne
    generalize hv' : (v : Int) + n - i = v' at ea ea3 eac
    have hv0 : (v : Int) + ((n : Int) + (i : Nat) * -1) = v' := by omega
    have hvl : 0 ≤ v' ∧ v' + i ≤ 68 := by omega
    have hin : i ≤ n := by omega
    refine ⟨_, rfl, _, rfl, _, _, rfl, rfl, _, _, rfl, rfl, _, _, rfl, ⟨by omega, by omega, by omega, by omega⟩, ?_⟩
    refine for_range (fun j σ H2 => CIn K H d v n a a' c' e' (upTo (p d (v' + 1)) i) v' ((n : Int) + (i : Nat) * -1) j σ H2)
      ⟨_, _, _, rfl, sC.trans (same_upd ne), Ha, Hc, He, haac, haae, hce, haa, hac', hae', ?_, ?_, ?_, upd_same⟩ (fun j σ H2 hj hC => ?_) (fun σ H2 hC => ?_)
    · rw [upd_ne hae']
      exact ea3
    · rw [upd_ne haae]
      exact ea4
    · rw [upd_ne hce]
      exact ec4
    · -- one size
      have hji : j < i := by omega
      obtain ⟨y8, y9, y10, rfl, s2, _, _, _, _, _, _, _, _, _, fb, fa, fc, fe⟩ := hC
      refine ⟨_, rfl, rfl, _, rfl, if_int (if j = 0 then v' else 0) (fun c1 Q r => ?_) (fun c1 Q r => ?_) ?_⟩
      · have c2 : (1 : Int) + (j : Int) = 1 := V.int.inj (of_decide_eq_true c1)
        refine ⟨_, rfl, _, rfl, _, _, rfl, rfl, ?_⟩
        rw [if_pos (show j = 0 by omega), ← hv0] at r
        exact r
      · have c2 : ¬ (1 : Int) + (j : Int) = 1 := fun z => of_decide_eq_false c1 (congrArg V.int z)
        rw [if_neg (show ¬ j = 0 by omega)] at r
        exact r
      -- primes.append(simple + doors * (plans[n - 1] + prime_waits(n, bodies)))
      have ej1 : (1 : Int) + (j : Int) = ((j + 1 : Nat) : Int) := by omega
      have hbl : i ≤ (upTo (p d (v' + 1)) i).length := by
        unfold upTo
        rw [firsts_len]
        omega
      refine ⟨.ref c', rfl, .inl ⟨rfl, _, hereL fc⟩, ?_⟩
      refine ⟨_, rfl, _, rfl, _, rfl, _, rfl, _, _, rfl, rfl, a', _, _, _, rfl, rfl, hereL fa, at_firsts' (k := j) (by omega) (by omega), _, rfl, _, rfl, (j + 1, a, upTo (p d (v' + 1)) i), ?_, ⟨by show j + 1 ≤ 60; omega, hereL fb, by show j + 1 ≤ (upTo (p d (v' + 1)) i).length; omega⟩, fun r H3 ⟨er, s3⟩ => ?_⟩
      · show [V.int (1 + (j : Int)), V.ref a] = [V.int ((j + 1 : Nat) : Int), V.ref a]
        rw [ej1]
      subst er
      have epw : pw (j + 1) (fun k => (upTo (p d (v' + 1)) i).getD k 0) = pw (j + 1) (p d (v' + 1)) := pw_congr fun k hk => firsts_getD (by omega)
      refine ⟨_, _, rfl, rfl, _, _, rfl, rfl, .inl ⟨by omega, by omega⟩, _, _, rfl, rfl, c', _, _, rfl, rfl, s3 _ _ fc, ?_, ?_⟩
      · rw [vI_len, firsts_len]
        exact small1000 (by omega)
      have eq1 : (if j = 0 then v' else 0) + (d : Int) * (p d v' j + pw (j + 1) (p d (v' + 1))) = q d v' (j + 1) := (q_succ j).symm
      dsimp only
      rw [epw, eq1, vI_app, firsts_succ]
      generalize hH4 : upd H3 c' (.lst (vI (firsts (q d v') (j + 1 + 1)))) = H4
      have gb : H4 a = some (.lst (vI (upTo (p d (v' + 1)) i))) := by
        rw [← hH4, upd_ne hac']
        exact s3 _ _ fb
      have ga : H4 a' = some (.lst (vI (firsts (p d v') (j + 1)))) := by
        rw [← hH4, upd_ne haac]
        exact s3 _ _ fa
      have gc : H4 c' = some (.lst (vI (firsts (q d v') (j + 1 + 1)))) := by
        rw [← hH4]
        exact upd_same
      have ge : H4 e' = some (.lst (vI (firsts (W (q d v')) (j + 1)))) := by
        rw [← hH4, upd_ne hce.symm]
        exact s3 _ _ fe
      have s4 : Same H H4 := by
        rw [← hH4]
        exact same_upd_at (s2.trans s3) Hc
      -- weights.append(sum([k * primes[k] for k in range(1, n + 1) if n % k == 0]))
      refine ⟨.ref e', rfl, .inl ⟨rfl, _, hereL ge⟩, ?_⟩
      refine ⟨_, rfl, _, _, rfl, rfl, _, _, rfl, ⟨by omega, by omega, by omega, by omega⟩, fun D nD => ?_⟩
      refine lcR (m := j + 1) (fun k => decide ((j + 1) % (k + 1) = 0)) (fun k => .int ((k + 1 : Nat) * q d v' (k + 1))) (by omega) (line1000 (by omega)) nD (fun _ => rfl) (fun k H5 hk s5 R r => ?_) (fun k H5 hk hkk s5 R r => ?_) (fun H5 s5 e5 => ?_)
      · refine ⟨_, rfl, _, rfl, _, _, rfl, rfl, (by show (0 : Int) < 1 + (k : Int); omega), rfl, _, rfl, ?_⟩
        rw [ej1, dmod]
        exact r
      · have ek1 : (1 : Int) + (k : Int) = ((k + 1 : Nat) : Int) := by omega
        refine ⟨_, rfl, _, rfl, _, rfl, c', _, _, _, rfl, rfl, s5.seq (hereL gc), at_firsts' (k := k + 1) (by omega) ek1, _, _, rfl, rfl, .inl ⟨by omega, by omega⟩, ?_⟩
        rw [ek1]
        exact r _ (Same.refl _)
      have eW : lcL (fun k => decide ((j + 1) % (k + 1) = 0)) (fun k => V.int (((k + 1 : Nat) : Int) * q d v' (k + 1))) (j + 1) = vI ((divs (j + 1)).map fun k : Nat => (k : Int) * q d v' k) := by
        rw [divs_turns (j + 1) (fun k => .int ((k : Int) * q d v' k)), map_int]
      rw [eW] at e5
      refine ⟨D, _, rfl, hereL e5, e', _, _, rfl, rfl, s5 _ _ ge, ?_, ?_⟩
      · rw [vI_len, firsts_len]
        exact small1000 (by omega)
      dsimp only
      rw [← W_divs _ (Nat.succ_pos j), vI_app, firsts_succ]
      generalize hH6 : upd H5 e' (.lst (vI (firsts (W (q d v')) (j + 1 + 1)))) = H6
      have kb : H6 a = some (.lst (vI (upTo (p d (v' + 1)) i))) := by
        rw [← hH6, upd_ne hae']
        exact s5 _ _ gb
      have ka : H6 a' = some (.lst (vI (firsts (p d v') (j + 1)))) := by
        rw [← hH6, upd_ne haae]
        exact s5 _ _ ga
      have kc : H6 c' = some (.lst (vI (firsts (q d v') (j + 1 + 1)))) := by
        rw [← hH6, upd_ne hce]
        exact s5 _ _ gc
      have ke : H6 e' = some (.lst (vI (firsts (W (q d v')) (j + 1 + 1)))) := by
        rw [← hH6]
        exact upd_same
      have s6 : Same H H6 := by
        rw [← hH6]
        exact same_upd_at (s4.trans s5) He
      -- plans.append(sum([weights[k] * plans[n - k] for k in range(1, n + 1)]) // n)
      refine ⟨.ref a', rfl, .inl ⟨rfl, _, hereL ka⟩, ?_⟩
      refine ⟨_, rfl, _, _, rfl, rfl, _, _, rfl, ⟨by omega, by omega, by omega, by omega⟩, fun D2 nD2 => ?_⟩
      refine lcR (m := j + 1) (fun k => true) (fun k => .int (W (q d v') (k + 1) * p d v' (j - k))) (by omega) (line1000 (by omega)) nD2 (fun _ => rfl) (fun k H7 hk s7 R r => r) (fun k H7 hk hkk s7 R r => ?_) (fun H7 s7 e7 => ?_)
      · have ek1 : (1 : Int) + (k : Int) = ((k + 1 : Nat) : Int) := by omega
        have b1 := lt_pow (W_abs (d := d) (k := k) (v := v') (by omega) (by omega) (by omega) (by omega) (by omega)) (show 31 * k + 22 < 2000 by omega)
        have b2 := lt_pow (p_abs (d := d) (by omega) (by omega) (j - k) v' (by omega) (by omega) (by omega)) (show 31 * (j - k) < 2000 by omega)
        exact ⟨_, rfl, _, rfl, e', _, _, _, rfl, rfl, s7.seq (hereL ke), at_firsts' (k := k + 1) (by omega) ek1, _, rfl, _, rfl, _, rfl, _, _, rfl, rfl, a', _, _, _, rfl, rfl, s7.seq (hereL ka), at_firsts' (k := j - k) (by omega) (by omega), _, _, rfl, rfl,
          wide_mul b1 b2 (by decide) (by decide) (by decide), r _ (Same.refl _)⟩
      rw [sum_vals] at e7
      refine ⟨D2, _, rfl, hereL e7, _, rfl, _, _, rfl, rfl, ⟨by omega, by omega⟩, a', _, _, rfl, rfl, s7 _ _ ka, ?_, ?_⟩
      · rw [vI_len, firsts_len]
        exact small1000 (by omega)
      dsimp only
      rw [sum_range, ej1, p_step, vI_app, firsts_succ]
      refine ⟨_, _, _, rfl, same_upd_at (s6.trans s7) Ha, Ha, Hc, He, haac, haae, hce, haa, hac', hae', ?_, upd_same, ?_, ?_⟩
      · rw [upd_ne haa]
        exact s7 _ _ kb
      · rw [upd_ne haac.symm]
        exact s7 _ _ kc
      · rw [upd_ne haae.symm]
        exact s7 _ _ ke
    · -- behind the sizes
      have ej : ((n : Int) - ((n : Int) + (i : Nat) * -1) + 1 - 1).toNat = i := by omega
      rw [ej] at hC
      obtain ⟨y8, y9, y10, rfl, s2, _, _, _, _, _, _, _, _, _, fb, fa, fc, fe⟩ := hC
      have ev : (v : Int) + n - ((i + 1 : Nat) : Int) + 1 = v' := by omega
      refine ⟨a', c', _, _, _, _, _, _, rfl, s2, haac, ?_, ?_⟩
      · rw [ev]
        unfold upTo
        rw [Nat.max_eq_left (by omega)]
        exact fa
      · rw [ev]
        unfold upTo
        rw [Nat.max_eq_left (by omega)]
        exact fc
  · obtain ⟨a, c, y5, y6, y7, y8, y9, y10, rfl, s1, hac, ea, ec⟩ := hP
    refine ⟨_, rfl, _, rfl, (by show 2 ≤ sizeLine; decide), fun t nt => ?_⟩
    have ev : (v : Int) + (n : Int) - ((n + 1 : Nat) : Int) + 1 = (v : Int) := by omega
    rw [ev] at ea ec
    have em : upTo (p d v) (n + 1) = firsts (p d v) (n + 1) := by
      unfold upTo
      rw [Nat.max_eq_left (by omega)]
    have em2 : upTo (q d v) (n + 1) = firsts (q d v) (n + 1) := by
      unfold upTo
      rw [Nat.max_eq_left (by omega)]
    rw [em] at ea
    rw [em2] at ec
    refine post _ _ ⟨t, a, c, rfl, same_upd_at s1 (s1.free nt), upd_same, ?_, ?_⟩
    · rw [upd_ne (ne_of_none ea nt)]
      exact ea
    · rw [upd_ne (ne_of_none ec nt)]
      exact ec
end
end K64
end
section
set_option Elab.async false
set_option linter.all false
set_option maxRecDepth 100000
set_option maxHeartbeats 4000000
namespace K64
open PySem PySem.Spec PyProof.Rows L2 KM
/-- a text by its codes -/
abbrev sOf (cs : List Nat) : Str := ⟨cs.toArray⟩
/-- different small letters, ascending -/
def Lt (cs : List Nat) : Prop := (∀ c ∈ cs, 97 ≤ c ∧ c ≤ 122) ∧ cs.Pairwise (· < ·)
theorem small_codes : smallS.cps.toList = (List.range 26).map (· + 97) := by decide +kernel
theorem mem_small {c : Nat} : c ∈ smallS.cps.toList ↔ 97 ≤ c ∧ c ≤ 122 := by
  rw [small_codes, List.mem_map]
  constructor
  · rintro ⟨a, h, rfl⟩
    have := List.mem_range.mp h
    omega
  · rintro ⟨h1, h2⟩
    exact ⟨c - 97, List.mem_range.mpr (by omega), by omega⟩
theorem all_bl {f : Nat → Bool} (n : Nat) : lcL (fun _ => true) (fun i => V.bl (f i)) n = ((List.range n).map f).map V.bl := by
  rw [lcL_all, List.map_map]
  rfl
theorem all_true {f : Nat → Bool} {n : Nat} (h : ∀ i, i < n → f i = true) : ((List.range n).map f).all id = true := by
  rw [List.all_map, List.all_eq_true]
  intro i hi
  exact h i (List.mem_range.mp hi)
section
variable {P : Program} {w : World} {K : PySem.W.Frag} {mg : Str → Option Value} {base : Heap}
abbrev spIsLetters : Sp := mkSp (fun cs : List Nat => [.str (sOf cs)]) (fun cs _ => Lt cs ∧ cs.length ≤ 8) (fun _ H v H' => v = .bl true ∧ Same H H')
theorem cl_isLetters (T : Top K mg) : Cl P w K mg base 1 "is_letters" spIsLetters := by
  obtain ⟨t1, m_MOST_LETTERS⟩ := T.MOST_LETTERS
  obtain ⟨t2, m_SMALL⟩ := T.SMALL
  refine T.isLetters.cal scIsLetters (fun _ => rfl) (fun f cdv A outer s H cs E Q hr pre post => ?_)
  obtain ⟨⟨hc, hp⟩, hl⟩ := pre
  have nd := scIsLetters.nd
  have hz : (sOf cs).length = cs.length := rfl
  have hlz : (sOf cs).length ≤ sizeLine := line1000 (by omega)
  refine ⟨_, (pss_cons (ps_if (PW.pt (pw_or (pt_not (pt_val (pe_callB (r := rIsi K) call_isi (by rfl) T.isinstance (by decide +kernel) (pa_cons (pv 0) (pa_cons (pe_bltn (v := .ty "str") (by rfl) T.str (by decide +kernel) rfl) pa_nil))))) (pw_or1 (pt_cmpR op_gt (pe_callB (r := rLenK K) call_lenK (by rfl) T.len (by decide +kernel) (pa_cons (pv 0) pa_nil)) (pe_glob (v := .int 8) rfl m_MOST_LETTERS ⟨_, rfl⟩) (nomark _))))) (pss_one (ps_ret pe_bl)) pss_nil)
      (pss_one (ps_ret (pe_and (pe_callB (r := rAll K) (cr_all rfl) (by rfl) T.all (by decide +kernel) (pa_cons (pe_lc (own := [("sign", 1)]) (g := gName 1) (by rfl) nd (pi_str (pv 0)) (blkOk_by (N := ["thing", "sign", "k"]) (sc := defScope sIsLetters) (by decide +kernel)) (fun _ _ _ _ _ => (pg_name (i := 1) nd rfl (Or.inl rfl))) (fun _ _ _ _ _ => pts_nil) (fun _ _ _ _ _ => (pe_cmpR op_in_sign (pv 1) (pe_glob (v := .str smallS) rfl m_SMALL ⟨_, rfl⟩) rfl))) pa_nil)) (pe_one (pe_callB (r := rAll K) (cr_all rfl) (by rfl) T.all (by decide +kernel) (pa_cons (pe_lc (own := [("k", 2)]) (g := gName 2) (by rfl) nd (pi_range1 (by rfl) T.range (pa_cons (pe_op op_sub (pe_callB (r := rLenK K) call_lenK (by rfl) T.len (by decide +kernel) (pa_cons (pv 0) pa_nil)) pe_int) pa_nil)) (blkOk_by (N := ["thing", "sign", "k"]) (sc := defScope sIsLetters) (by decide +kernel)) (fun _ _ _ _ _ => (pg_name (i := 2) nd rfl (Or.inl rfl))) (fun _ _ _ _ _ => pts_nil) (fun _ _ _ _ _ => (pe_cmpR op_lt_str (pe_ix (r := rIxS) ix_str (pv 0) (pv 2) (fun _ _ => rfl)) (pe_ix (r := rIxS) ix_str (pv 0) (pe_op op_add (pv 2) pe_int) (fun _ _ => rfl)) (nomark _)))) pa_nil))))))), ?_⟩
  refine ⟨_, rfl, _, _, _, _, true, rfl, .ty "str", ty_str, kit_ty (by decide +kernel), true, rfl, iteF ?_⟩
  refine ⟨_, rfl, _, _, rfl, ⟨hlz, rfl⟩, _, _, rfl, rfl, _, rfl, ite2 (fun c => ?_) (fun c => ?_)⟩
  · have : (8 : Int) < ((sOf cs).length : Int) := of_decide_eq_true c
    omega
  refine ⟨_, rfl, _, rfl, fun D nD => ?_⟩
  refine lcT (fun _ => true) (fun i => .bl true) (by show cs.length ≤ _; exact line1000 (by omega)) nD (fun _ => rfl) (fun i c H1 h1 s1 Q r => r) (fun i c H1 h1 _ s1 R r => ?_) (fun H1 s1 e1 => ?_)
  · refine ⟨_, rfl, c, _, rfl, rfl, ?_⟩
    have hm : c ∈ cs := List.mem_of_getElem? (i := i) (by simpa using h1)
    rw [show decide (c ∈ smallS.cps.toList) = true from decide_eq_true (mem_small.mpr (hc c hm))]
    exact r _ (Same.refl _)
  rw [all_bl] at e1
  refine ⟨D, _, rfl, hereL e1, _, rfl, ?_⟩
  rw [all_true (fun _ _ => rfl)]
  refine iteT ?_
  refine ⟨_, rfl, _, _, rfl, ⟨hlz, rfl⟩, _, _, rfl, rfl, _, rfl, by omega, by omega, fun D2 nD2 => ?_⟩
  refine lcR (m := cs.length - 1) (fun _ => true) (fun i => .bl true) (by omega) (line1000 (by omega)) nD2 (fun _ => rfl) (fun i H2 h2 s2 Q r => r) (fun i H2 h2 _ s2 R r => ?_) (fun H2 s2 e2 => ?_)
  · have h3 : i < cs.length := by omega
    have h4 : i + 1 < cs.length := by omega
    have a1 : atI (sOf cs).cps.toList (0 + (i : Int)) = some cs[i] := by
      rw [Int.zero_add]
      exact atI_nat (List.getElem?_eq_getElem h3)
    have a2 : atI (sOf cs).cps.toList (0 + (i : Int) + 1) = some cs[i + 1] := by
      rw [show (0 : Int) + (i : Int) + 1 = ((i + 1 : Nat) : Int) by omega]
      exact atI_nat (List.getElem?_eq_getElem h4)
    refine ⟨_, rfl, _, rfl, _, _, _, rfl, rfl, hlz, a1, _, rfl, _, rfl, _, _, rfl, rfl, _, _, _, rfl, rfl, hlz, a2, _, _, rfl, rfl, ?_⟩
    have hlt : cs[i] < cs[i + 1] := List.pairwise_iff_getElem.mp hp i (i + 1) h3 h4 (Nat.lt_succ_self i)
    rw [show decide (((⟨#[cs[i]]⟩ : Str).cps.toList) < ((⟨#[cs[i + 1]]⟩ : Str).cps.toList)) = true from decide_eq_true (List.Lex.rel hlt)]
    exact r _ (Same.refl _)
  rw [all_bl] at e2
  refine ⟨D2, _, rfl, hereL e2, ?_⟩
  rw [all_true (fun _ _ => rfl)]
  exact post _ _ ⟨rfl, s1.trans s2⟩
end
end K64
end
section
set_option Elab.async false
set_option linter.all false
set_option maxRecDepth 100000
set_option maxHeartbeats 4000000
namespace K64
open PySem PySem.Spec PyProof.Rows L2 KM
section
variable {P : Program} {w : World} {K : PySem.W.Frag} {mg : Str → Option Value} {base : Heap}
abbrev LtP (a : List Nat × List Nat) : Prop := (Lt a.1 ∧ a.1.length ≤ 8) ∧ (Lt a.2 ∧ a.2.length ≤ 8)
abbrev spCheckLetters : Sp := mkSp (fun a : List Nat × List Nat => [.str (sOf a.1), .str (sOf a.2)]) (fun a _ => LtP a) (fun _ H v H' => v = .non ∧ Same H H')
theorem cl_checkLetters (T : Top K mg) : Cl P w K mg base 2 "check_letters" spCheckLetters := by
  have G_isLetters : Cl P w K mg base 1 "is_letters" spIsLetters := cl_isLetters T
  refine T.checkLetters.cal scCheckLetters (fun _ => rfl) (fun f cdv A outer s H a E Q hr pre post => ?_)
  have nd := scCheckLetters.nd
  refine ⟨_, (pss_cons (ps_if (pt_not (pt_val (pcl G_isLetters hr (pa_cons (pv 0) pa_nil)))) (pss_one ps_never) pss_nil)
      (pss_one (ps_if (pt_not (pt_val (pcl G_isLetters hr (pa_cons (pv 1) pa_nil)))) (pss_one ps_never) pss_nil))), ?_⟩
  refine ⟨_, rfl, a.1, rfl, pre.1, fun v H1 ⟨e1, s1⟩ => ?_⟩
  subst e1
  refine ⟨true, rfl, iteF ?_⟩
  refine ⟨_, rfl, a.2, rfl, pre.2, fun v H2 ⟨e2, s2⟩ => ?_⟩
  subst e2
  exact ⟨true, rfl, iteF (post _ _ ⟨rfl, s1.trans s2⟩)⟩

/-- arguments: letters of doors, of names, a size -/
abbrev A3 := List Nat × List Nat × Nat
abbrev sp3 (pre : A3 → Prop) (val : A3 → Int) : Sp := mkSp (fun a : A3 => [.str (sOf a.1), .str (sOf a.2.1), .int a.2.2]) (fun a _ => pre a) (fun a H v H' => v = .int (val a) ∧ Same H H')
abbrev okA (a : A3) : Prop := LtP (a.1, a.2.1) ∧ a.2.2 ≤ 60
theorem cl_countOf (T : Top K mg) : Cl P w K mg base 4 "count_of" (sp3 okA fun a => p a.1.length a.2.1.length a.2.2) := by
  have G_counted : Cl P w K mg base 3 "counted" spCounted := cl_counted T
  refine T.countOf.cal scCountOf (fun _ => rfl) (fun f cdv A outer s H a E Q hr pre post => ?_)
  obtain ⟨ds, ns, n⟩ := a
  obtain ⟨⟨⟨hd, hd8⟩, ⟨hn, hn8⟩⟩, h60⟩ := pre
  have hd8 : ds.length ≤ 8 := hd8
  have hn8 : ns.length ≤ 8 := hn8
  have h60 : n ≤ 60 := h60
  have nd := scCountOf.nd
  refine ⟨_, (pss_one (ps_ret (pe_ix (r := rIxL K) ix_list (pe_ix (r := rIxT K) ix_tup (pcl G_counted hr (pa_cons (pe_callB (r := rLenK K) call_lenK (by rfl) T.len (by decide +kernel) (pa_cons (pv 0) pa_nil)) (pa_cons (pe_callB (r := rLenK K) call_lenK (by rfl) T.len (by decide +kernel) (pa_cons (pv 1) pa_nil)) (pa_cons (pv 2) pa_nil)))) pe_int (fun _ _ => rfl)) (pv 2) (fun _ _ => rfl)))), ?_⟩
  refine ⟨_, rfl, _, _, rfl, ⟨line1000 (by show ds.length ≤ 1000; omega), rfl⟩, _, rfl, _, _, rfl, ⟨line1000 (by show ns.length ≤ 1000; omega), rfl⟩, _, rfl, (ds.length, ns.length, n), rfl, ⟨hd8, hn8, h60⟩, fun v H1 ⟨t, x, y, ev, s1, e1, e2, e3⟩ => ?_⟩
  subst ev
  exact ⟨t, _, _, _, rfl, rfl, hereT e1, atI_nat (j := 0) rfl, _, rfl, x, _, _, _, rfl, rfl, hereL e2, at_firsts (k := n) (by show n < n + 1; omega), post _ _ ⟨rfl, s1⟩⟩
theorem cl_count (T : Top K mg) : Cl P w K mg base 5 "count" (sp3 okA fun a => p a.1.length a.2.1.length a.2.2) := by
  have G_countOf : Cl P w K mg base 4 "count_of" (sp3 okA fun a => p a.1.length a.2.1.length a.2.2) := cl_countOf T
  have G_checkLetters : Cl P w K mg base 2 "check_letters" spCheckLetters := cl_checkLetters T
  have G_checkSize : Cl P w K mg base 3 "check_size" spCheckSize := cl_checkSize T
  refine T.count.cal scCount (fun _ => rfl) (fun f cdv A outer s H a E Q hr pre post => ?_)
  have nd := scCount.nd
  refine ⟨_, (pss_cons (ps_expr (pcl G_checkLetters hr (pa_cons (pv 0) (pa_cons (pv 1) pa_nil))))
      (pss_cons (ps_expr (pcl G_checkSize hr (pa_cons (pv 2) (pa_cons pe_int pa_nil))))
      (pss_one (ps_ret (pcl G_countOf hr (pa_cons (pv 0) (pa_cons (pv 1) (pa_cons (pv 2) pa_nil)))))))), ?_⟩
  refine ⟨_, rfl, _, rfl, (a.1, a.2.1), rfl, pre.1, fun v H1 ⟨_, s1⟩ => ?_⟩
  refine ⟨_, rfl, ((a.2.2 : Int), 0), rfl, ⟨by show (0 : Int) ≤ a.2.2; omega, by show ((a.2.2 : Nat) : Int) ≤ 60; have := pre.2; omega⟩, fun v H2 ⟨_, e2⟩ => ?_⟩
  subst e2
  refine ⟨_, rfl, _, rfl, _, rfl, a, rfl, pre, fun v H3 ⟨e3, s3⟩ => ?_⟩
  subst e3
  exact post _ _ ⟨rfl, s1.trans s3⟩
theorem cl_countPrimes (T : Top K mg) : Cl P w K mg base 4 "count_primes" (sp3 (fun a => okA a ∧ 1 ≤ a.2.2) fun a => q a.1.length a.2.1.length a.2.2) := by
  have G_counted : Cl P w K mg base 3 "counted" spCounted := cl_counted T
  have G_checkLetters : Cl P w K mg base 2 "check_letters" spCheckLetters := cl_checkLetters T
  have G_checkSize : Cl P w K mg base 3 "check_size" spCheckSize := cl_checkSize T
  refine T.countPrimes.cal scCountPrimes (fun _ => rfl) (fun f cdv A outer s H a E Q hr pre post => ?_)
  obtain ⟨ds, ns, n⟩ := a
  obtain ⟨⟨hLt, h60⟩, h1⟩ := pre
  have h60 : n ≤ 60 := h60
  have h1 : 1 ≤ n := h1
  have hd8 : ds.length ≤ 8 := hLt.1.2
  have hn8 : ns.length ≤ 8 := hLt.2.2
  have nd := scCountPrimes.nd
  refine ⟨_, (pss_cons (ps_expr (pcl G_checkLetters hr (pa_cons (pv 0) (pa_cons (pv 1) pa_nil))))
      (pss_cons (ps_expr (pcl G_checkSize hr (pa_cons (pv 2) (pa_cons pe_int pa_nil))))
      (pss_one (ps_ret (pe_ix (r := rIxL K) ix_list (pe_ix (r := rIxT K) ix_tup (pcl G_counted hr (pa_cons (pe_callB (r := rLenK K) call_lenK (by rfl) T.len (by decide +kernel) (pa_cons (pv 0) pa_nil)) (pa_cons (pe_callB (r := rLenK K) call_lenK (by rfl) T.len (by decide +kernel) (pa_cons (pv 1) pa_nil)) (pa_cons (pv 2) pa_nil)))) pe_int (fun _ _ => rfl)) (pv 2) (fun _ _ => rfl)))))), ?_⟩
  refine ⟨_, rfl, _, rfl, (ds, ns), rfl, hLt, fun v H1 ⟨_, s1⟩ => ?_⟩
  refine ⟨_, rfl, ((n : Int), 1), rfl, ⟨by show (1 : Int) ≤ n; omega, by show ((n : Nat) : Int) ≤ 60; omega⟩, fun v H2 ⟨_, e2⟩ => ?_⟩
  subst e2
  refine ⟨_, rfl, _, _, rfl, ⟨line1000 (by show ds.length ≤ 1000; omega), rfl⟩, _, rfl, _, _, rfl, ⟨line1000 (by show ns.length ≤ 1000; omega), rfl⟩, _, rfl, (ds.length, ns.length, n), rfl, ⟨hd8, hn8, h60⟩, fun v H3 ⟨t, x, y, ev, s3, e1, e2, e3⟩ => ?_⟩
  subst ev
  exact ⟨t, _, _, _, rfl, rfl, hereT e1, atI_nat (j := 1) rfl, _, rfl, y, _, _, _, rfl, rfl, hereL e3, at_firsts (k := n) (by show n < n + 1; omega), post _ _ ⟨rfl, s1.trans s3⟩⟩
end
end K64
end
section
set_option linter.all false
set_option maxRecDepth 100000
set_option Elab.async false
namespace KM
/-! ### plans by sizes and numbers of primes -/
abbrev Tb := Nat → Nat → Int
def wpt (t : Tb) (s : Nat) (x : Int) (n m j : Nat) : Int := if j * s ≤ n ∧ j ≤ m then mc x j * t (n - j * s) (m - j) else 0
def wp (t : Tb) (s : Nat) (x : Int) (J n m : Nat) : Int := sm (wpt t s x n m) (J + 1)
def TT (q : Sq) : Nat → Tb
  | 0 => fun n m => if n = 0 ∧ m = 0 then 1 else 0
  | s + 1 => fun n m => wp (TT q s) (s + 1) (q (s + 1)) n n m
theorem wp_succ (t : Tb) (s : Nat) (x : Int) (J n m : Nat) : wp t s x (J + 1) n m = wp t s x J n m + wpt t s x n m (J + 1) := rfl
theorem wp_zero (t : Tb) (s : Nat) (x : Int) (n m : Nat) : wp t s x 0 n m = t n m := by
  show (0 : Int) + (if 0 * s ≤ n ∧ 0 ≤ m then mc x 0 * t (n - 0 * s) (m - 0) else 0) = t n m
  rw [if_pos ⟨by omega, by omega⟩, Nat.zero_mul, Nat.sub_zero, Nat.sub_zero, Int.zero_add]
  exact Int.one_mul _
theorem wpt_out {t : Tb} {s : Nat} {x : Int} {n m j : Nat} (h : n < j * s) : wpt t s x n m j = 0 := if_neg fun z => by omega
/-- more copies than fit change nothing -/
theorem wp_stay {t : Tb} {s : Nat} {x : Int} {n m J J' : Nat} (h : n < (J + 1) * s) (hJ : J ≤ J') : wp t s x J' n m = wp t s x J n m :=
  sm_cut (by omega) fun k h1 h2 => wpt_out (by
    have : (J + 1) * s ≤ k * s := Nat.mul_le_mul_right s h1
    omega)
theorem wp_same {t : Tb} {s : Nat} {x : Int} {n m N : Nat} (hs : 0 < s) (hn : n ≤ N) : wp t s x (N / s) n m = wp t s x n n m := by
  have e1 : wp t s x (N / s) n m = wp t s x (n / s) n m := wp_stay (by
    have := Nat.lt_div_mul_add hs (a := n)
    rw [Nat.add_mul, Nat.one_mul]
    exact this) (Nat.div_le_div_right hn)
  have e2 : wp t s x n n m = wp t s x (n / s) n m := wp_stay (by
    have := Nat.lt_div_mul_add hs (a := n)
    rw [Nat.add_mul, Nat.one_mul]
    exact this) (Nat.div_le_self n s)
  rw [e1, e2]
/-- no copies of nothing -/
theorem wp_none {t : Tb} {s : Nat} {J n m : Nat} : wp t s 0 J n m = t n m := by
  induction J with
  | zero => exact wp_zero t s 0 n m
  | succ J ih =>
    rw [wp_succ, ih]
    show t n m + (if (J + 1) * s ≤ n ∧ J + 1 ≤ m then mc 0 (J + 1) * t (n - (J + 1) * s) (m - (J + 1)) else 0) = t n m
    rw [mc_zero, Int.zero_mul]
    split <;> omega
theorem TT_succ (q : Sq) (s n m : Nat) : TT q (s + 1) n m = wp (TT q s) (s + 1) (q (s + 1)) n n m := rfl
/-- more primes than the size: none -/
theorem TT_above (q : Sq) : ∀ (s n m : Nat), n < m → TT q s n m = 0
  | 0, n, m, h => if_neg fun z => by omega
  | s + 1, n, m, h => sm_zero _ fun j _ => by
    show (if j * (s + 1) ≤ n ∧ j ≤ m then mc (q (s + 1)) j * TT q s (n - j * (s + 1)) (m - j) else 0) = 0
    by_cases c : j * (s + 1) ≤ n ∧ j ≤ m
    · have : j ≤ j * (s + 1) := Nat.le_mul_of_pos_right j (Nat.succ_pos s)
      rw [if_pos c, TT_above q s _ _ (by omega), Int.mul_zero]
    · rw [if_neg c]
theorem TT_none (q : Sq) : ∀ (s n : Nat), TT q s n 0 = if n = 0 then 1 else 0
  | 0, n => by
    show (if n = 0 ∧ 0 = 0 then (1 : Int) else 0) = _
    by_cases h : n = 0
    · rw [if_pos ⟨h, rfl⟩, if_pos h]
    · rw [if_neg (fun z => h z.1), if_neg h]
  | s + 1, n => by
    rw [TT_succ]
    have e : wp (TT q s) (s + 1) (q (s + 1)) n n 0 = sm (wpt (TT q s) (s + 1) (q (s + 1)) n 0) 1 := sm_cut (by omega) fun k h1 h2 => if_neg fun z => by omega
    rw [e, ← TT_none q s n]
    exact wp_zero _ _ _ _ _
theorem TT_one (q : Sq) : ∀ (s n : Nat), TT q s n 1 = if 0 < n ∧ n ≤ s then q n else 0
  | 0, n => by
    show (if n = 0 ∧ 1 = 0 then (1 : Int) else 0) = _
    rw [if_neg (fun z => by omega), if_neg (fun z => by omega)]
  | s + 1, n => by
    rw [TT_succ]
    by_cases h0 : n = 0
    · subst h0
      have e : wp (TT q s) (s + 1) (q (s + 1)) 0 0 1 = TT q s 0 1 := wp_zero _ _ _ _ _
      rw [e, TT_one q s 0, if_neg (fun z => by omega), if_neg (fun z => by omega)]
    · have e : wp (TT q s) (s + 1) (q (s + 1)) n n 1 = sm (wpt (TT q s) (s + 1) (q (s + 1)) n 1) 2 := sm_cut (by omega) fun k h1 h2 => if_neg fun z => by omega
      rw [e]
      show sm (wpt (TT q s) (s + 1) (q (s + 1)) n 1) 1 + wpt (TT q s) (s + 1) (q (s + 1)) n 1 1 = _
      have e1 : sm (wpt (TT q s) (s + 1) (q (s + 1)) n 1) 1 = TT q s n 1 := wp_zero _ _ _ _ _
      rw [e1, TT_one q s n]
      have m1 : mc (q (s + 1)) 1 = q (s + 1) := by
        show 1 * (q (s + 1) + ((0 : Nat) : Int)) / ((0 + 1 : Nat) : Int) = q (s + 1)
        simp
      show _ + (if 1 * (s + 1) ≤ n ∧ 1 ≤ 1 then mc (q (s + 1)) 1 * TT q s (n - 1 * (s + 1)) (1 - 1) else 0) = _
      rw [m1, Nat.sub_self, TT_none, Nat.one_mul]
      by_cases c : n ≤ s
      · rw [if_pos ⟨by omega, c⟩, if_neg (fun z => by omega), if_pos ⟨by omega, by omega⟩, Int.add_zero]
      · rw [if_neg (fun z => c z.2)]
        by_cases c2 : n = s + 1
        · rw [if_pos ⟨by omega, by omega⟩, if_pos (show n - (s + 1) = 0 by omega), if_pos ⟨by omega, by omega⟩, c2]
          omega
        · by_cases c3 : s + 1 ≤ n
          · rw [if_pos ⟨c3, by omega⟩, if_neg (show ¬ n - (s + 1) = 0 by omega), if_neg (fun z => by omega)]
            omega
          · rw [if_neg (fun z => c3 z.1), if_neg (fun z => by omega)]
            rfl
/-- two primes: one step -/
theorem TT_two (q : Sq) (s n : Nat) (h0 : 2 ≤ n) : TT q (s + 1) n 2 = TT q s n 2 + (if 0 < n - (s + 1) ∧ n - (s + 1) ≤ s then q (s + 1) * q (n - (s + 1)) else 0) + (if n = 2 * (s + 1) then mc (q (s + 1)) 2 else 0) := by
  rw [TT_succ]
  have e : wp (TT q s) (s + 1) (q (s + 1)) n n 2 = sm (wpt (TT q s) (s + 1) (q (s + 1)) n 2) 3 := sm_cut (by omega) fun k h1 h2 => if_neg fun z => by omega
  rw [e]
  show sm (wpt (TT q s) (s + 1) (q (s + 1)) n 2) 1 + wpt (TT q s) (s + 1) (q (s + 1)) n 2 1 + wpt (TT q s) (s + 1) (q (s + 1)) n 2 2 = _
  have e1 : sm (wpt (TT q s) (s + 1) (q (s + 1)) n 2) 1 = TT q s n 2 := wp_zero _ _ _ _ _
  have m1 : mc (q (s + 1)) 1 = q (s + 1) := by
    show 1 * (q (s + 1) + ((0 : Nat) : Int)) / ((0 + 1 : Nat) : Int) = q (s + 1)
    simp
  rw [e1]
  congr 1
  · congr 1
    show (if 1 * (s + 1) ≤ n ∧ 1 ≤ 2 then mc (q (s + 1)) 1 * TT q s (n - 1 * (s + 1)) (2 - 1) else 0) = _
    rw [m1, Nat.one_mul, show 2 - 1 = 1 from rfl, TT_one]
    by_cases c : s + 1 ≤ n
    · rw [if_pos ⟨c, by omega⟩]
      split
      · rfl
      · rw [Int.mul_zero]
    · rw [if_neg (fun z => c z.1), if_neg (fun z => by omega)]
  · show (if 2 * (s + 1) ≤ n ∧ 2 ≤ 2 then mc (q (s + 1)) 2 * TT q s (n - 2 * (s + 1)) (2 - 2) else 0) = _
    rw [Nat.sub_self, TT_none]
    by_cases c : n = 2 * (s + 1)
    · rw [if_pos ⟨by omega, by omega⟩, if_pos (by omega), if_pos c, Int.mul_one]
    · rw [if_neg c]
      by_cases c2 : 2 * (s + 1) ≤ n
      · rw [if_pos ⟨c2, by omega⟩, if_neg (by omega), Int.mul_zero]
      · rw [if_neg (fun z => c2 z.1)]
/-- as many primes as the size: all of size 1 -/
theorem TT_top (q : Sq) : ∀ (s n : Nat), TT q (s + 1) n n = mc (q 1) n
  | 0, n => by
    rw [TT_succ]
    show sm (wpt (TT q 0) 1 (q 1) n n) (n + 1) = mc (q 1) n
    show sm (wpt (TT q 0) 1 (q 1) n n) n + wpt (TT q 0) 1 (q 1) n n n = _
    rw [sm_zero n fun j hj => ?_]
    · show (0 : Int) + (if n * 1 ≤ n ∧ n ≤ n then mc (q 1) n * (if n - n * 1 = 0 ∧ n - n = 0 then 1 else 0) else 0) = _
      rw [if_pos ⟨by omega, by omega⟩, if_pos ⟨by omega, by omega⟩]
      omega
    · show (if j * 1 ≤ n ∧ j ≤ n then mc (q 1) j * (if n - j * 1 = 0 ∧ n - j = 0 then 1 else 0) else 0) = 0
      rw [if_neg (show ¬ (n - j * 1 = 0 ∧ n - j = 0) by omega), Int.mul_zero]
      split <;> rfl
  | s + 1, n => by
    rw [TT_succ, ← TT_top q s n]
    have e : wp (TT q (s + 1)) (s + 1 + 1) (q (s + 1 + 1)) n n n = sm (wpt (TT q (s + 1)) (s + 1 + 1) (q (s + 1 + 1)) n n) 1 := sm_cut (by omega) fun j h1 h2 => by
      show (if j * (s + 1 + 1) ≤ n ∧ j ≤ n then mc _ j * TT q (s + 1) (n - j * (s + 1 + 1)) (n - j) else 0) = 0
      by_cases c : j * (s + 1 + 1) ≤ n ∧ j ≤ n
      · have h3 : j * (s + 1 + 1) = j * s + 2 * j := by
          rw [Nat.mul_add, Nat.mul_add]
          omega
        rw [if_pos c, TT_above _ _ _ _ (by omega), Int.mul_zero]
      · rw [if_neg c]
    rw [e]
    exact wp_zero _ _ _ _ _
/-- a convolution with one factor, by copies -/
theorem conv_fB (s : Nat) (x : Int) (hs : 0 < s) (f : Sq) (n : Nat) : conv (fB s x) f n = sm (fun j => if j * s ≤ n then mc x j * f (n - j * s) else 0) (n + 1) := by
  have gen : ∀ (a : Nat → Int) (n : Nat), conv (fun k => if k % s = 0 then a (k / s) else 0) f n = sm (fun j => if j * s ≤ n then a j * f (n - j * s) else 0) (n + 1) := by
    intro a n
    induction n using Nat.strongRecOn generalizing a with
    | ind n ih =>
      have e0 : conv (fun k => if k % s = 0 then a (k / s) else 0) f n = conv (fun k => (if k = 0 then a 0 else 0) + sh s (fun k => if k % s = 0 then a (k / s + 1) else 0) k) f n := by
        refine conv_congr n _ _ _ _ (fun k _ => ?_) (fun _ _ => rfl)
        show _ = (if k = 0 then a 0 else 0) + (if k < s then 0 else if (k - s) % s = 0 then a ((k - s) / s + 1) else 0)
        by_cases h0 : k = 0
        · subst h0
          rw [Nat.zero_mod, if_pos rfl, if_pos rfl, if_pos hs, Nat.zero_div, Int.add_zero]
        · rw [if_neg h0, Int.zero_add]
          by_cases h1 : k < s
          · rw [if_pos h1, if_neg (by rw [Nat.mod_eq_of_lt h1]; exact h0)]
          · rw [if_neg h1, Nat.mod_eq_sub_mod (by omega), ← Nat.div_eq_sub_div hs (by omega)]
      have e1 : conv (fun m => if m = 0 then a 0 else 0) f n = a 0 * f n := by
        cases n with
        | zero => rfl
        | succ m =>
          show (if (0 : Nat) = 0 then a 0 else 0) * f (m + 1) + conv (fun k => if k + 1 = 0 then a 0 else 0) f m = _
          rw [conv_zero_left m _ _ (fun k _ => if_neg (Nat.succ_ne_zero k)), if_pos rfl, Int.add_zero]
      rw [e0, conv_add_left, e1, conv_sh, sm_head]
      congr 1
      · rw [if_pos (by omega), Nat.zero_mul, Nat.sub_zero]
      · by_cases h : n < s
        · rw [if_pos h]
          refine (sm_zero n fun j hj => if_neg ?_).symm
          have : s ≤ (j + 1) * s := Nat.le_mul_of_pos_left s (Nat.succ_pos j)
          omega
        · rw [if_neg h, ih (n - s) (by omega) (fun k => a (k + 1))]
          have e2 : sm (fun j => if (j + 1) * s ≤ n then a (j + 1) * f (n - (j + 1) * s) else 0) n = sm (fun j => if (j + 1) * s ≤ n then a (j + 1) * f (n - (j + 1) * s) else 0) (n - s + 1) := by
            refine sm_cut (by omega) fun k h1 h2 => if_neg ?_
            have h3 : k * 1 ≤ k * s := Nat.mul_le_mul_left k hs
            rw [Nat.add_mul]
            omega
          rw [e2]
          refine sm_congr _ fun j hj => ?_
          rw [Nat.add_mul, Nat.one_mul]
          by_cases c : j * s ≤ n - s
          · rw [if_pos c, if_pos (by omega), show n - (j * s + s) = n - s - j * s by omega]
          · rw [if_neg c, if_neg (by omega)]
  exact gen (mc x) n
/-- all numbers of primes together -/
theorem TT_sum (q : Sq) : ∀ (s n M : Nat), n ≤ M → sm (fun m => TT q s n m) (M + 1) = C q s n
  | 0, n, M, h => by
    have z : sm (fun k => TT q 0 n (k + 1)) M = 0 := sm_zero M fun k _ => if_neg fun z => by omega
    rw [sm_head, z]
    show (if n = 0 ∧ 0 = 0 then (1 : Int) else 0) + 0 = if n = 0 then 1 else 0
    by_cases c : n = 0
    · rw [if_pos ⟨c, rfl⟩, if_pos c]
      rfl
    · rw [if_neg (fun z => c z.1), if_neg c]
      rfl
  | s + 1, n, M, h => by
    show sm (fun m => sm (wpt (TT q s) (s + 1) (q (s + 1)) n m) (n + 1)) (M + 1) = conv (fB (s + 1) (q (s + 1))) (C q s) n
    rw [sm_swap, conv_fB (s + 1) _ (Nat.succ_pos s)]
    refine sm_congr _ fun j hj => ?_
    show sm (fun m => if j * (s + 1) ≤ n ∧ j ≤ m then mc (q (s + 1)) j * TT q s (n - j * (s + 1)) (m - j) else 0) (M + 1) = _
    by_cases c : j * (s + 1) ≤ n
    · rw [if_pos c]
      have hj2 : j ≤ j * (s + 1) := Nat.le_mul_of_pos_right j (Nat.succ_pos s)
      have shift : ∀ N, sm (fun m => if j * (s + 1) ≤ n ∧ j ≤ m then mc (q (s + 1)) j * TT q s (n - j * (s + 1)) (m - j) else 0) (j + N) = mc (q (s + 1)) j * sm (fun m => TT q s (n - j * (s + 1)) m) N := fun N => by
        induction N with
        | zero =>
          rw [sm_zero (j + 0) fun k hk => if_neg fun z => by omega]
          exact (Int.mul_zero _).symm
        | succ N ih =>
          show sm _ (j + N) + (if j * (s + 1) ≤ n ∧ j ≤ j + N then mc (q (s + 1)) j * TT q s (n - j * (s + 1)) (j + N - j) else 0) = mc (q (s + 1)) j * (sm (fun m => TT q s (n - j * (s + 1)) m) N + TT q s (n - j * (s + 1)) N)
          rw [ih, if_pos ⟨c, by omega⟩, show j + N - j = N by omega, Int.mul_add]
      rw [show M + 1 = j + (M - j + 1) by omega, shift, TT_sum q s (n - j * (s + 1)) (M - j) (by omega)]
    · rw [if_neg c]
      exact sm_zero _ fun k _ => if_neg fun z => c z.1
end KM
end
section
set_option linter.all false
set_option maxRecDepth 100000
set_option Elab.async false
namespace KM
/-- the first n values of a sequence -/
def fst (f : Sq) (n : Nat) : List Int := (List.range n).map f
theorem fst_succ (f : Sq) (n : Nat) : fst f n ++ [f n] = fst f (n + 1) := by
  unfold fst
  rw [List.range_succ, List.map_append]
  rfl
theorem fst_getD {f : Sq} {n k : Nat} (h : k < n) : (fst f n).getD k 0 = f k := by
  unfold fst
  rw [List.getD_eq_getElem?_getD, List.getElem?_map, List.getElem?_range h]
  rfl
/-! ### a quick way to the numbers -/
def rowL (d s : Int) (bs : List Int) : Nat → List Int × List Int × List Int
  | 0 => ([1], [0], [0])
  | n + 1 =>
    let r := rowL d s bs n
    let x := (if n = 0 then s else 0) + d * (r.1.getD n 0 + ((divs (n + 1)).map fun k => mu k * bs.getD ((n + 1) / k - 1) 0).sum)
    let pr := r.2.1 ++ [x]
    let wt := ((divs (n + 1)).map fun k : Nat => (k : Int) * pr.getD k 0).sum
    let we := r.2.2 ++ [wt]
    let y := ((List.range (n + 1)).map fun k => we.getD (k + 1) 0 * r.1.getD (n - k) 0).sum / ((n + 1 : Nat) : Int)
    (r.1 ++ [y], pr, we)
def tabL (d vt : Int) : Nat → List Int × List Int × List Int
  | 0 => rowL d vt [1] 0
  | j + 1 => rowL d (vt - (j + 1 : Nat)) (tabL d vt j).1 (j + 1)
theorem rowL_eq (d v : Int) (bs : List Int) (m : Nat) (hb : ∀ k, k < m → bs.getD k 0 = p d (v + 1) k) : ∀ n, n ≤ m → rowL d v bs n = (fst (p d v) (n + 1), fst (q d v) (n + 1), fst (W (q d v)) (n + 1))
  | 0, _ => rfl
  | n + 1, h => by
    have ih := rowL_eq d v bs m hb n (by omega)
    have ex : (if n = 0 then v else 0) + d * ((fst (p d v) (n + 1)).getD n 0 + ((divs (n + 1)).map fun k => mu k * bs.getD ((n + 1) / k - 1) 0).sum) = q d v (n + 1) := by
      rw [q_succ, fst_getD (Nat.lt_succ_self n), pw_congr (B := p d (v + 1)) (B' := fun k => bs.getD k 0) fun k hk => (hb k (by omega)).symm]
      rfl
    have ew : ((divs (n + 1)).map fun k : Nat => (k : Int) * (fst (q d v) (n + 1 + 1)).getD k 0).sum = W (q d v) (n + 1) := by
      rw [W_divs _ (Nat.succ_pos n)]
      congr 1
      refine List.map_congr_left fun k hk => ?_
      obtain ⟨_, h2, _⟩ := mem_divs.mp hk
      rw [fst_getD (by omega)]
    have ey : ((List.range (n + 1)).map fun k => (fst (W (q d v)) (n + 1 + 1)).getD (k + 1) 0 * (fst (p d v) (n + 1)).getD (n - k) 0).sum / ((n + 1 : Nat) : Int) = p d v (n + 1) := by
      rw [← p_step, ← sum_range]
      congr 2
      refine List.map_congr_left fun k hk => ?_
      have := List.mem_range.mp hk
      rw [fst_getD (by omega), fst_getD (by omega)]
    unfold rowL
    rw [ih]
    dsimp only
    rw [ex, fst_succ, ew, fst_succ, ey, fst_succ]
theorem tabL_eq (d vt : Int) : ∀ j : Nat, tabL d vt j = (fst (p d (vt - j)) (j + 1), fst (q d (vt - j)) (j + 1), fst (W (q d (vt - j))) (j + 1))
  | 0 => by
    show rowL d vt [1] 0 = _
    rw [show vt - ((0 : Nat) : Int) = vt by omega]
    rfl
  | j + 1 => by
    show rowL d (vt - (j + 1 : Nat)) (tabL d vt j).1 (j + 1) = _
    rw [tabL_eq d vt j]
    refine rowL_eq _ _ _ (j + 1) (fun k hk => ?_) _ (Nat.le_refl _)
    rw [fst_getD (by omega)]
    congr 1
    omega
theorem nn_all : ∀ d v : Fin 9, (tabL d.val (v.val + 8 : Nat) 8).2.1.all (fun x => decide (0 ≤ x)) = true := by decide +kernel
/-- there are no fewer than no primes (small sizes) -/
theorem q_nn {d v k : Nat} (hd : d ≤ 8) (hv : v ≤ 8) (hk : k ≤ 8) : 0 ≤ q (d : Int) (v : Int) k := by
  have h := nn_all ⟨d, by omega⟩ ⟨v, by omega⟩
  rw [tabL_eq] at h
  have e : (((v + 8 : Nat) : Int) - ((8 : Nat) : Int)) = (v : Int) := by omega
  have h2 : (fst (q (d : Int) (v : Int)) 9).all (fun x => decide (0 ≤ x)) = true := by
    rw [← e]
    exact h
  have h3 := List.all_eq_true.mp h2 (q (d : Int) (v : Int) k) (List.mem_map.mpr ⟨k, List.mem_range.mpr (by omega), rfl⟩)
  exact of_decide_eq_true h3

/-! ### how large: multichoose, products -/
theorem mc_abs {x : Int} {a : Nat} : ∀ j : Nat, x.natAbs + j ≤ 2 ^ a → (mc x j).natAbs ≤ 2 ^ (a * j)
  | 0, _ => by
    show (1 : Int).natAbs ≤ 2 ^ (a * 0)
    simp
  | j + 1, h => by
    have ih := mc_abs (x := x) (a := a) j (by omega)
    have e := congrArg Int.natAbs (mc_step x j)
    rw [Int.natAbs_mul, Int.natAbs_mul] at e
    have h1 : (mc x (j + 1)).natAbs ≤ ((j + 1 : Nat) : Int).natAbs * (mc x (j + 1)).natAbs := Nat.le_mul_of_pos_left _ (by omega)
    have h2 : (x + (j : Int)).natAbs ≤ 2 ^ a := by omega
    have h3 := Nat.mul_le_mul ih h2
    rw [← Nat.pow_add] at h3
    rw [show a * (j + 1) = a * j + a by rw [Nat.mul_add, Nat.mul_one]]
    omega
theorem conv_abs {c : Nat} : ∀ (n : Nat) (f g : Sq) (F : Nat), (∀ k, k ≤ n → (f k).natAbs ≤ F * 2 ^ (37 * k)) → (∀ k, k ≤ n → (g k).natAbs ≤ 2 ^ (38 * k + c)) → (conv f g n).natAbs ≤ F * 2 ^ (38 * n + c + 1)
  | 0, f, g, F, hf, hg => by
    show (f 0 * g 0).natAbs ≤ _
    rw [Int.natAbs_mul]
    have h1 := hf 0 (Nat.le_refl _)
    have h2 := hg 0 (Nat.le_refl _)
    have h3 := Nat.mul_le_mul h1 h2
    refine Nat.le_trans h3 ?_
    rw [Nat.mul_assoc]
    refine Nat.mul_le_mul_left F ?_
    rw [← Nat.pow_add]
    exact pow_mono (by omega)
  | n + 1, f, g, F, hf, hg => by
    show (f 0 * g (n + 1) + conv (fun k => f (k + 1)) g n).natAbs ≤ _
    have h1 := hf 0 (by omega)
    have h2 := hg (n + 1) (Nat.le_refl _)
    have h3 := Nat.mul_le_mul h1 h2
    rw [← Int.natAbs_mul, Nat.mul_assoc, ← Nat.pow_add] at h3
    have h4 := conv_abs n (fun k => f (k + 1)) g (F * 2 ^ 37) (fun k hk => by
      have := hf (k + 1) (by omega)
      rw [Nat.mul_assoc, ← Nat.pow_add]
      rwa [show 37 + 37 * k = 37 * (k + 1) by omega]) (fun k hk => hg k (by omega))
    rw [Nat.mul_assoc, ← Nat.pow_add] at h4
    have h5 := Int.natAbs_add_le (f 0 * g (n + 1)) (conv (fun k => f (k + 1)) g n)
    rw [show 38 * (n + 1) + c + 1 = (38 * n + c + 38) + 1 by omega, Nat.pow_succ 2 (38 * n + c + 38)]
    rw [show 37 * 0 + (38 * (n + 1) + c) = 38 * n + c + 38 by omega] at h3
    rw [show 37 + (38 * n + c + 1) = 38 * n + c + 38 by omega] at h4
    generalize 2 ^ (38 * n + c + 38) = z at h3 h4 ⊢
    rw [show F * (z * 2) = F * z + F * z by rw [Nat.mul_comm z 2, ← Nat.mul_assoc, Nat.mul_comm F 2, Nat.mul_assoc, Nat.two_mul]]
    omega
theorem fB_abs {x : Int} {s k : Nat} (hs : 0 < s) (hs60 : s ≤ 60) (hx : x.natAbs ≤ 2 ^ (31 * s)) (hk : k ≤ 60) : (fB s x k).natAbs ≤ 2 ^ (37 * k) := by
  show (if k % s = 0 then mc x (k / s) else 0).natAbs ≤ _
  by_cases h : k % s = 0
  · rw [if_pos h]
    have h1 : k / s ≤ k := Nat.div_le_self k s
    have h2 : x.natAbs + k / s ≤ 2 ^ (37 * s) := by
      have h3 : 37 * s = 31 * s + (6 * s) := by omega
      have h4 : 2 ^ 6 ≤ 2 ^ (6 * s) := pow_mono (by omega)
      have h5 : 1 ≤ 2 ^ (31 * s) := Nat.one_le_two_pow
      rw [h3, Nat.pow_add]
      have h6 : 2 ^ (31 * s) * 64 ≤ 2 ^ (31 * s) * 2 ^ (6 * s) := Nat.mul_le_mul_left _ h4
      omega
    refine Nat.le_trans (mc_abs (k / s) h2) (pow_mono ?_)
    have h7 := Nat.div_add_mod k s
    have h8 : 37 * s * (k / s) = 37 * (s * (k / s)) := Nat.mul_assoc _ _ _
    omega
  · rw [if_neg h]
    simp
theorem C_abs {q : Sq} : ∀ (s n : Nat), s ≤ 60 → n ≤ 60 → (∀ k, 0 < k → k ≤ s → (q k).natAbs ≤ 2 ^ (31 * k)) → (C q s n).natAbs ≤ 2 ^ (38 * n + s)
  | 0, n, _, _, _ => by
    show (if n = 0 then (1 : Int) else 0).natAbs ≤ _
    have : 1 ≤ 2 ^ (38 * n + 0) := Nat.one_le_two_pow
    split
    · exact this
    · simp
  | s + 1, n, hs, hn, hq => by
    show (conv (fB (s + 1) (q (s + 1))) (C q s) n).natAbs ≤ _
    have h := conv_abs (c := s) n (fB (s + 1) (q (s + 1))) (C q s) 1 (fun k hk => by
      rw [Nat.one_mul]
      exact fB_abs (Nat.succ_pos s) hs (hq (s + 1) (Nat.succ_pos s) (Nat.le_refl _)) (by omega)) (fun k hk => C_abs s k (by omega) (by omega) fun j h1 h2 => hq j h1 (by omega))
    rw [Nat.one_mul] at h
    exact h
theorem q_abs1 {d : Int} (hd : 0 ≤ d) (hd8 : d ≤ 8) {k : Nat} {v : Int} (h0 : 0 < k) (hk : k ≤ 60) (hv : 0 ≤ v) (hvn : v + k ≤ 128) : (q d v k).natAbs ≤ 2 ^ (31 * k) := by
  obtain ⟨k, rfl⟩ : ∃ j, k = j + 1 := ⟨k - 1, by omega⟩
  exact Nat.le_trans (q_abs hd hd8 (by omega) hv (by omega)) (pow_mono (by omega))
theorem TT_abs {q : Sq} (hq : ∀ k, 0 < k → k ≤ 8 → (q k).natAbs ≤ 2 ^ 300) : ∀ (s n m : Nat), s ≤ 8 → n ≤ 8 → (TT q s n m).natAbs ≤ 2 ^ (2420 * s)
  | 0, n, m, _, _ => by
    show (if n = 0 ∧ m = 0 then (1 : Int) else 0).natAbs ≤ _
    split <;> simp
  | s + 1, n, m, hs, hn => by
    rw [TT_succ]
    have h := sm_abs (f := wpt (TT q s) (s + 1) (q (s + 1)) n m) (M := 2 ^ (301 * 8 + 2420 * s)) (n + 1) fun j hj => by
      show (if j * (s + 1) ≤ n ∧ j ≤ m then mc (q (s + 1)) j * TT q s (n - j * (s + 1)) (m - j) else 0).natAbs ≤ _
      split
      · rw [Int.natAbs_mul, Nat.pow_add]
        have h1 := hq (s + 1) (Nat.succ_pos s) hs
        have h2 : (mc (q (s + 1)) j).natAbs ≤ 2 ^ (301 * j) := mc_abs j (by
          have e1 : 2 ^ 301 = 2 ^ 300 + 2 ^ 300 := by
            rw [Nat.pow_succ 2 300]
            exact Nat.mul_two _
          have e2 : 2 ^ 3 ≤ 2 ^ 300 := pow_mono (by omega)
          omega)
        exact Nat.mul_le_mul (Nat.le_trans h2 (pow_mono (by omega))) (TT_abs hq s _ _ (by omega) (by omega))
      · simp
    refine Nat.le_trans h ?_
    rw [show 2420 * (s + 1) = (301 * 8 + 2420 * s) + 12 by omega, Nat.pow_add 2 (301 * 8 + 2420 * s) 12, Nat.mul_comm]
    exact Nat.mul_le_mul_left _ (by show n + 1 ≤ 4096; omega)

/-! ### pairs of primes -/
theorem TT_zero_two (q : Sq) (n : Nat) : TT q 0 n 2 = 0 := if_neg fun z => by omega
theorem pairs (q : Sq) {n : Nat} (h3 : 3 ≤ n) (h8 : n ≤ 8) : TT q n n 2 = sm (fun k => q (k + 1) * q (n - (k + 1))) ((n + 1) / 2 - 1) + (if n / 2 * 2 = n then mc (q (n / 2)) 2 else 0) := by
  rcases (show n = 3 ∨ n = 4 ∨ n = 5 ∨ n = 6 ∨ n = 7 ∨ n = 8 by omega) with rfl | rfl | rfl | rfl | rfl | rfl <;>
    · simp [TT_two, TT_zero_two, sm, Int.mul_comm]
      try omega
end KM
end
section
set_option Elab.async false
set_option linter.all false
set_option maxRecDepth 100000
set_option maxHeartbeats 4000000
namespace K64
open PySem PySem.Spec PyProof.Rows L2 KM
theorem ixN_nat {n k : Nat} (h : k < n) : ixN n ((k : Nat) : Int) = some k := by
  unfold ixN
  rw [if_pos (Int.natCast_nonneg k), if_pos (by omega)]
  rfl
theorem firsts_congr {f g : Sq} {n : Nat} (h : ∀ k, k < n → f k = g k) : firsts f n = firsts g n := by
  unfold firsts
  exact List.map_congr_left fun k hk => h k (List.mem_range.mp hk)
/-- a row with one place changed -/
theorem firsts_set {f : Sq} {n m : Nat} {x : Int} (h : m < n) : (vI (firsts f n)).set m (.int x) = vI (firsts (fun k => if k = m then x else f k) n) := by
  refine List.ext_getElem? fun i => ?_
  rw [List.getElem?_set]
  unfold vI
  rw [List.length_map, firsts_len, List.getElem?_map, List.getElem?_map]
  by_cases e : m = i
  · subst e
    rw [if_pos rfl, if_pos h, firsts_at h, if_pos rfl]
    rfl
  · rw [if_neg e]
    by_cases hi : i < n
    · rw [firsts_at hi, firsts_at hi, if_neg (Ne.symm e)]
    · rw [List.getElem?_eq_none (by rw [firsts_len]; omega), List.getElem?_eq_none (by rw [firsts_len]; omega)]
/-- a table: rows of ints -/
def TabAt (H : Hp) (a : Addr) (rs : List Addr) (t : Tb) (N M : Nat) : Prop :=
  H a = some (.lst (rs.map V.ref)) ∧ rs.length = N + 1 ∧ ∀ n r, rs[n]? = some r → H r = some (.lst (vI (firsts (t n) (M + 1))))
/-- rows of one's own: new since H0 -/
def OwnR (H0 : Hp) (a : Addr) (rs : List Addr) : Prop := H0 a = none ∧ rs.Nodup ∧ a ∉ rs ∧ ∀ r ∈ rs, H0 r = none
theorem TabAt.congr {H : Hp} {a : Addr} {rs : List Addr} {t u : Tb} {N M : Nat} (T : TabAt H a rs t N M) (h : ∀ n m, n ≤ N → m ≤ M → t n m = u n m) : TabAt H a rs u N M := by
  obtain ⟨h1, h2, h3⟩ := T
  refine ⟨h1, h2, fun n r e => ?_⟩
  have hn : n < rs.length := (List.getElem?_eq_some_iff.mp e).1
  rw [h3 n r e, firsts_congr fun k hk => h n k (by omega) (by omega)]
theorem TabAt.same {H H' : Hp} {a : Addr} {rs : List Addr} {t : Tb} {N M : Nat} (T : TabAt H a rs t N M) (s : Same H H') : TabAt H' a rs t N M :=
  ⟨s _ _ T.1, T.2.1, fun n r e => s _ _ (T.2.2 n r e)⟩
theorem TabAt.row {H : Hp} {a : Addr} {rs : List Addr} {t : Tb} {N M n : Nat} (T : TabAt H a rs t N M) (h : n ≤ N) : ∃ r, rs[n]? = some r ∧ (rs.map V.ref)[n]? = some (.ref r) ∧ H r = some (.lst (vI (firsts (t n) (M + 1)))) := by
  have hn : n < rs.length := by
    rw [T.2.1]
    omega
  refine ⟨rs[n], List.getElem?_eq_getElem hn, ?_, T.2.2 n _ (List.getElem?_eq_getElem hn)⟩
  rw [List.getElem?_map, List.getElem?_eq_getElem hn]
  rfl
/-- one place of an own table changed -/
theorem TabAt.put {H0 H : Hp} {a : Addr} {rs : List Addr} {t : Tb} {N M n m : Nat} {r : Addr} {x : Int} (T : TabAt H a rs t N M) (O : OwnR H0 a rs) (hr : rs[n]? = some r) (hm : m ≤ M) :
    TabAt (upd H r (.lst ((vI (firsts (t n) (M + 1))).set m (.int x)))) a rs (fun i j => if i = n ∧ j = m then x else t i j) N M := by
  obtain ⟨h1, h2, h3⟩ := T
  have har : a ≠ r := fun e => O.2.2.1 (e ▸ List.mem_of_getElem? hr)
  refine ⟨by rw [upd_ne har]; exact h1, h2, fun i q e => ?_⟩
  by_cases c : i = n
  · subst c
    have eq : q = r := Option.some.inj (e.symm.trans hr)
    subst eq
    rw [upd_same, firsts_set (by omega)]
    congr 3
    refine firsts_congr fun k _ => ?_
    show (if k = m then x else t i k) = if i = i ∧ k = m then x else t i k
    by_cases ck : k = m
    · rw [if_pos ck, if_pos ⟨rfl, ck⟩]
    · rw [if_neg ck, if_neg (fun z => ck z.2)]
  · have hq : q ≠ r := fun z => by
      subst z
      obtain ⟨b1, e1⟩ := List.getElem?_eq_some_iff.mp e
      obtain ⟨b2, e2⟩ := List.getElem?_eq_some_iff.mp hr
      exact c ((List.getElem_inj O.2.1).mp (e1.trans e2.symm))
    rw [upd_ne hq, h3 i q e]
    congr 3
    exact firsts_congr fun k _ => (if_neg fun z => c z.1).symm
/-- between turns: the copies so far, and of one copy more the places already come to -/
def mix (t : Tb) (s : Nat) (x : Int) (i n0 m0 : Nat) : Tb := fun n m => wp t s x i n m + (if (i + 1) * s ≤ n ∧ i + 1 ≤ m ∧ (n - (i + 1) * s < n0 ∨ (n - (i + 1) * s = n0 ∧ m - (i + 1) < m0)) then mc x (i + 1) * t (n - (i + 1) * s) (m - (i + 1)) else 0)
theorem mix_start (t : Tb) (s : Nat) (x : Int) (i n m : Nat) : mix t s x i 0 0 n m = wp t s x i n m := by
  unfold mix
  rw [if_neg fun z => by omega, Int.add_zero]
theorem mix_row (t : Tb) (s : Nat) (x : Int) (i n0 M n m : Nat) (hm : m ≤ M) : mix t s x i n0 (M - i) n m = mix t s x i (n0 + 1) 0 n m := by
  unfold mix
  congr 1
  by_cases c : (i + 1) * s ≤ n ∧ i + 1 ≤ m ∧ n - (i + 1) * s < n0 + 1
  · rw [if_pos ⟨c.1, c.2.1, by omega⟩, if_pos ⟨c.1, c.2.1, by omega⟩]
  · rw [if_neg fun z => by omega, if_neg fun z => by omega]
theorem mix_end (t : Tb) (s : Nat) (x : Int) (i N n m : Nat) (hn : n ≤ N) : mix t s x i (N + 1 - (i + 1) * s) 0 n m = wp t s x (i + 1) n m := by
  rw [wp_succ]
  show wp t s x i n m + _ = wp t s x i n m + (if (i + 1) * s ≤ n ∧ i + 1 ≤ m then mc x (i + 1) * t (n - (i + 1) * s) (m - (i + 1)) else 0)
  congr 1
  by_cases c : (i + 1) * s ≤ n ∧ i + 1 ≤ m
  · rw [if_pos ⟨c.1, c.2, by omega⟩, if_pos c]
  · rw [if_neg fun z => c ⟨z.1, z.2.1⟩, if_neg c]
theorem mix_step (t : Tb) (s : Nat) (x : Int) (i n0 m0 n m : Nat) : mix t s x i n0 (m0 + 1) n m = if n = n0 + (i + 1) * s ∧ m = m0 + (i + 1) then mix t s x i n0 m0 (n0 + (i + 1) * s) (m0 + (i + 1)) + t n0 m0 * mc x (i + 1) else mix t s x i n0 m0 n m := by
  by_cases c : n = n0 + (i + 1) * s ∧ m = m0 + (i + 1)
  · obtain ⟨rfl, rfl⟩ := c
    rw [if_pos ⟨rfl, rfl⟩]
    unfold mix
    rw [if_pos ⟨by omega, by omega, by omega⟩, if_neg fun z => by omega, Nat.add_sub_cancel, Nat.add_sub_cancel, Int.mul_comm (t n0 m0)]
    omega
  · rw [if_neg c]
    unfold mix
    congr 1
    by_cases d : (i + 1) * s ≤ n ∧ i + 1 ≤ m ∧ (n - (i + 1) * s < n0 ∨ (n - (i + 1) * s = n0 ∧ m - (i + 1) < m0))
    · rw [if_pos d, if_pos ⟨d.1, d.2.1, by omega⟩]
    · rw [if_neg d, if_neg fun z => by omega]
section
variable {P : Program} {w : World} {K : PySem.W.Frag} {mg : Str → Option Value} {base : Heap}
/-- a table's address, its rows, what stands there, its bounds, a size and the primes of it -/
structure AW where
  (a : Addr) (rs : List Addr) (t : Tb) (N M s : Nat) (x : Int)
abbrev spWithPrimes : Sp := mkSp (fun z : AW => [.ref z.a, .int z.s, .int z.x]) (fun z H => TabAt H z.a z.rs z.t z.N z.M ∧ (0 < z.s ∧ z.s ≤ 60) ∧ z.N ≤ 8 ∧ z.M ≤ 60 ∧ 0 ≤ z.x ∧ z.x.natAbs ≤ 2 ^ 300 ∧ ∀ n m, n ≤ z.N → (z.t n m).natAbs ≤ 2 ^ 20000)
  (fun z H v H' => ∃ f rs, v = .ref f ∧ Same H H' ∧ TabAt H' f rs (fun n m => wp z.t z.s z.x n n m) z.N z.M)
theorem cl_withPrimes (T : Top K mg) : Cl P w K mg base 1 "with_primes" spWithPrimes := by
  refine T.withPrimes.cal scWithPrimes (fun _ => rfl) (fun f cdv A outer s0 H z E Q hr pre post => ?_)
  obtain ⟨a, rs, t, N, M, s, x⟩ := z
  obtain ⟨hT, ⟨hs, hs60⟩, hN, hM, hx0, hx, ht⟩ := pre
  dsimp only at hT hs hs60 hN hM hx0 hx ht post
  have nd := scWithPrimes.nd
  refine ⟨_, (pss_cons (ps_setLc (i := 3) (own := [("row", 8)]) (g := gName 8) (by rfl) nd rfl rfl (sw_true rfl rfl rfl (by decide +kernel)) (pi_list (pv 0)) (blkOk_by (N := ["table", "size", "sorts", "found", "ways", "many", "n", "m", "row"]) (sc := defScope sWithPrimes) (by decide +kernel)) (fun _ _ _ _ _ => (pg_name (i := 8) nd rfl (Or.inl rfl))) (fun _ _ _ _ _ => pts_nil) (fun _ _ _ _ _ => (pe_callTy (r := rListOf K) call_listOf (by rfl) T.list (by decide +kernel) (pa_cons (pv 8) pa_nil))))
      (pss_cons (ps_set (i := 4) nd rfl (.inl rfl) pe_int)
      (pss_cons (ps_for PassesOwn.never rfl (pi_range2 (by rfl) T.range (pa_cons pe_int (pa_cons (pe_op op_add (pe_op op_fdiv (pe_op op_sub (pe_callB (r := rLenK K) call_lenK (by rfl) T.len (by decide +kernel) (pa_cons (pv 0) pa_nil)) pe_int) (pv 1)) pe_int) pa_nil))) (pg_name (i := 5) nd rfl (.inl rfl)) (pss_cons (ps_set (i := 4) nd rfl (.inl rfl) (pe_op op_fdiv (pe_op op_mulW (pv 4) (pe_op op_sub (pe_op op_add (pv 2) (pv 5)) pe_int)) (pv 5)))
      (pss_one (ps_for PassesOwn.never rfl (pi_range1 (by rfl) T.range (pa_cons (pe_op op_sub (pe_callB (r := rLenK K) call_lenK (by rfl) T.len (by decide +kernel) (pa_cons (pv 0) pa_nil)) (pe_op op_mul (pv 5) (pv 1))) pa_nil)) (pg_name (i := 6) nd rfl (.inl rfl)) (pss_one (ps_for PassesOwn.never rfl (pi_range1 (by rfl) T.range (pa_cons (pe_op op_sub (pe_callB (r := rLenK K) call_lenK (by rfl) T.len (by decide +kernel) (pa_cons (pe_ix (r := rIxL K) ix_list (pv 0) (pv 6) (fun _ _ => rfl)) pa_nil)) (pv 5)) pa_nil)) (pg_name (i := 7) nd rfl (.inl rfl)) (pss_one (ps_augS (pe_ix (r := rIxL K) ix_list (pv 3) (pe_op op_add (pv 6) (pe_op op_mul (pv 5) (pv 1))) (fun _ _ => rfl)) (pe_op op_add (pv 7) (pv 5)) get_list (pe_op op_mulW (pe_ix (r := rIxL K) ix_list (pe_ix (r := rIxL K) ix_list (pv 0) (pv 6) (fun _ _ => rfl)) (pv 7) (fun _ _ => rfl)) (pv 4)) ip_add set_list))))))))
      (pss_one (ps_ret (pv 3)))))), ?_⟩
  -- found = [list(row) for row in table]
  refine ⟨_, rfl, a, rfl, ⟨_, hereL hT.1⟩, fun D nD => ?_⟩
  refine lc_list (xs := rs.map V.ref) (fun i H1 => ∃ rs1 : List Addr, rs1.length = i ∧ Same H H1 ∧ H1 D = some (.lst (rs1.map V.ref)) ∧ rs1.Nodup ∧ D ∉ rs1 ∧ (∀ r ∈ rs1, H r = none) ∧ ∀ n r, rs1[n]? = some r → H1 r = some (.lst (vI (firsts (t n) (M + 1)))))
    ⟨[], rfl, same_upd nD, upd_same, List.nodup_nil, (fun z => nomatch z), (fun r z => nomatch z), (fun n r e => by simp at e)⟩ (fun i H1 _ h => ?_) (fun i y H1 hi h => ?_) (fun H1 h => ?_)
  · obtain ⟨rs1, _, s1, _⟩ := h
    exact s1.seq (hereL hT.1)
  · obtain ⟨rs1, hl1, s1, hD, hnd, hDr, hfr, hrow⟩ := h
    have hi2 : i < rs.length := by
      have := (List.getElem?_eq_some_iff.mp hi).1
      rwa [List.length_map] at this
    obtain ⟨r, er, er2, hr1⟩ := hT.row (n := i) (by rw [hT.2.1] at hi2; omega)
    have ey : y = .ref r := Option.some.inj (hi.symm.trans er2)
    subst ey
    refine ⟨rfl, _, rfl, r, _, rfl, .inl (hereL (s1 _ _ hr1)), fun l nl => ?_⟩
    have hDl : D ≠ l := ne_of_none hD nl
    refine ⟨_, (upd_ne hDl).trans hD, by rw [List.length_map]; exact small1000 (by rw [hT.2.1] at hi2; omega), ?_⟩
    have hl : H l = none := s1.free nl
    have hlr : l ∉ rs1 := fun z => by
      obtain ⟨n, hn⟩ := List.getElem?_of_mem z
      rw [hrow n l hn] at nl
      cases nl
    refine ⟨rs1 ++ [l], by rw [List.length_append, hl1]; rfl, same_upd_at (same_upd_at s1 hl) nD, ?_, ?_, ?_, fun q hq => ?_, fun n q e => ?_⟩
    · rw [upd_same, List.map_append]
      rfl
    · refine List.nodup_append.mpr ⟨hnd, by simp, fun u hu v hv => ?_⟩
      rw [List.mem_singleton.mp hv]
      exact fun z => hlr (z ▸ hu)
    · intro z
      rcases List.mem_append.mp z with z | z
      · exact hDr z
      · exact hDl (List.mem_singleton.mp z)
    · rcases List.mem_append.mp hq with z | z
      · exact hfr q z
      · rw [List.mem_singleton.mp z]
        exact hl
    · by_cases hn : n < rs1.length
      · rw [List.getElem?_append_left hn] at e
        have hq : q ∈ rs1 := List.mem_of_getElem? e
        rw [upd_ne (fun z => hDr (by rw [← z]; exact hq)), upd_ne (fun z => hlr (by rw [← z]; exact hq))]
        exact hrow n q e
      · rw [List.getElem?_append_right (by omega)] at e
        have hn2 : n - rs1.length = 0 := by
          by_cases c : n - rs1.length = 0
          · exact c
          · rw [List.getElem?_eq_none (by simp; omega)] at e
            cases e
        rw [hn2] at e
        have eq : l = q := Option.some.inj e
        subst eq
        have hni : n = i := by omega
        subst hni
        rw [upd_ne hDl.symm, upd_same]
  obtain ⟨R, hR, s1, hD, hnd, hDr, hfr, hrow⟩ := h
  have hTf : TabAt H1 D R t N M := ⟨hD, by rw [hR, List.length_map]; exact hT.2.1, hrow⟩
  have O : OwnR H D R := ⟨nD, hnd, hDr, hfr⟩
  clear hR hD hnd hDr hfr hrow
  have hlen : rs.length = N + 1 := hT.2.1
  have hlenV : (rs.map V.ref).length = N + 1 := by rw [List.length_map]; exact hlen
  -- ways = 1; for many in range(1, (len(table) - 1) // size + 1)
  have ediv : (((rs.map V.ref).length : Nat) : Int) - 1 = (N : Int) := by omega
  have ediv2 : ((((rs.map V.ref).length : Nat) : Int) - 1) / (s : Int) = ((N / s : Nat) : Int) := by
    rw [ediv]
    rfl
  have hNs : N / s ≤ N := Nat.div_le_self N s
  obtain ⟨c, hc⟩ : ∃ c, N / s = c := ⟨_, rfl⟩
  rw [hc] at ediv2 hNs
  refine ⟨_, rfl, _, _, rfl, .inl ⟨_, hereL (s1 _ _ hT.1), rfl⟩, _, _, rfl, rfl, _, rfl, _, _, rfl, rfl, ⟨(by show (0 : Int) < (s : Int); omega), (by show (s : Int) < 1073741824; omega)⟩, _, _, rfl, rfl, _, _, rfl, ⟨by omega, by omega, by rw [ediv2]; omega, by rw [ediv2]; omega⟩, ?_⟩
  rw [show (((((rs.map V.ref).length : Nat) : Int) - 1) / (s : Int) + 1 - 1).toNat = c by rw [ediv2]; omega]
  refine for_range (fun i σ H' => ∃ y5 y6 y7, σ = [some (.ref a), some (.int s), some (.int x), some (.ref D), some (.int (mc x i)), y5, y6, y7, none] ∧ Same H H' ∧ TabAt H' D R (wp t s x i) N M)
    ⟨_, _, _, rfl, s1, hTf.congr fun n m _ _ => (wp_zero t s x n m).symm⟩ (fun i σ H2 hi hP => ?_) (fun σ H2 hP => ?_)
  · -- one copy more
    obtain ⟨y5, y6, y7, rfl, s2, hW⟩ := hP
    have hi8 : i < 8 := by omega
    have ei1 : (1 : Int) + (i : Int) = ((i + 1 : Nat) : Int) := by omega
    have hmc : ∀ j, j ≤ 9 → (mc x j).natAbs ≤ 2 ^ 2800 := fun j hj => Nat.le_trans (mc_abs (a := 301) j (by
      have e1 : 2 ^ 301 = 2 ^ 300 + 2 ^ 300 := by
        rw [Nat.pow_succ 2 300]
        exact Nat.mul_two _
      have e2 : 2 ^ 4 ≤ 2 ^ 300 := pow_mono (by omega)
      omega)) (pow_mono (by omega))
    have hxi : (x + (1 + (i : Int)) - 1).natAbs < 2 ^ 302 := by
      have e1 : 2 ^ 302 = 2 ^ 300 * 4 := by rw [show 302 = 300 + 2 from rfl, Nat.pow_add]
      have e2 : 2 ^ 4 ≤ 2 ^ 300 := pow_mono (by omega)
      omega
    refine ⟨_, rfl, _, rfl, _, rfl, _, _, rfl, rfl, _, _, rfl, rfl, _, _, rfl, rfl, wide_mul (lt_pow (hmc i (by omega)) (show 2800 < 2900 by omega)) hxi (by decide) (by decide) (by decide), _, rfl, _, _, rfl, rfl, ⟨by omega, by omega⟩, ?_⟩
    dsimp only
    have ew : mc x i * (x + (1 + (i : Int)) - 1) / (1 + (i : Int)) = mc x (i + 1) := by
      rw [ei1]
      show mc x i * (x + ((i + 1 : Nat) : Int) - 1) / ((i + 1 : Nat) : Int) = mc x i * (x + i) / ((i + 1 : Nat) : Int)
      congr 2
      omega
    rw [ew]
    have hms : (1 + (i : Int)) * (s : Int) = (((i + 1) * s : Nat) : Int) := by rw [ei1, Int.natCast_mul]
    have hms2 : (i + 1) * s ≤ 8 * 60 := Nat.mul_le_mul (by omega) hs60
    refine ⟨_, rfl, _, _, rfl, .inl ⟨_, hereL (s2 _ _ hT.1), rfl⟩, _, rfl, _, rfl, _, _, rfl, rfl, .inl ⟨by omega, by omega⟩, _, _, rfl, rfl, _, rfl, by rw [hms]; omega, by rw [hms]; omega, ?_⟩
    rw [show (((rs.map V.ref).length : Int) - (1 + (i : Int)) * (s : Int)).toNat = N + 1 - (i + 1) * s by rw [hms]; omega]
    refine for_range (fun n0 σ H' => ∃ y6 y7, σ = [some (.ref a), some (.int s), some (.int x), some (.ref D), some (.int (mc x (i + 1))), some (.int (1 + (i : Int))), y6, y7, none] ∧ Same H H' ∧ TabAt H' D R (mix t s x i n0 0) N M)
      ⟨_, _, rfl, s2, hW.congr fun n m _ _ => (mix_start t s x i n m).symm⟩ (fun n0 σ H3 hn0 hP => ?_) (fun σ H3 hP => ?_)
    · obtain ⟨y6, y7, rfl, s3, hX⟩ := hP
      obtain ⟨r, er, er2, hr1⟩ := hT.row (n := n0) (by omega)
      have en0 : (0 : Int) + (n0 : Int) = (n0 : Int) := by omega
      have eat : atI (rs.map V.ref) ((0 : Int) + (n0 : Int)) = some (.ref r) := by
        rw [en0]
        exact atI_nat er2
      refine ⟨_, rfl, _, rfl, a, _, _, _, rfl, rfl, hereL (s3 _ _ hT.1), eat, _, _, rfl, .inl ⟨_, hereL (s3 _ _ hr1), rfl⟩, _, rfl, _, _, rfl, rfl, _, rfl, by rw [vI_len, firsts_len]; omega, by rw [vI_len, firsts_len]; omega, ?_⟩
      rw [show (((vI (firsts (t n0) (M + 1))).length : Int) - (1 + (i : Int))).toNat = M - i by rw [vI_len, firsts_len]; omega]
      refine for_range (fun m0 σ H' => ∃ y7, σ = [some (.ref a), some (.int s), some (.int x), some (.ref D), some (.int (mc x (i + 1))), some (.int (1 + (i : Int))), some (.int (0 + (n0 : Int))), y7, none] ∧ Same H H' ∧ TabAt H' D R (mix t s x i n0 m0) N M)
        ⟨_, rfl, s3, hX⟩ (fun m0 σ H4 hm0 hP => ?_) (fun σ H4 hP => ?_)
      · obtain ⟨y7, rfl, s4, hY⟩ := hP
        obtain ⟨r2, f1, f2, f3⟩ := hY.row (n := n0 + (i + 1) * s) (by omega)
        have eix : (0 : Int) + (n0 : Int) + (1 + (i : Int)) * (s : Int) = ((n0 + (i + 1) * s : Nat) : Int) := by rw [hms]; omega
        have eim : (0 : Int) + (m0 : Int) + (1 + (i : Int)) = ((m0 + (i + 1) : Nat) : Int) := by omega
        have eat2 : atI (R.map V.ref) ((0 : Int) + (n0 : Int) + (1 + (i : Int)) * (s : Int)) = some (.ref r2) := by
          rw [eix]
          exact atI_nat f2
        have eget : (vI (firsts (mix t s x i n0 m0 (n0 + (i + 1) * s)) (M + 1)))[m0 + (i + 1)]? = some (.int (mix t s x i n0 m0 (n0 + (i + 1) * s) (m0 + (i + 1)))) := by
          unfold vI
          rw [List.getElem?_map, firsts_at (by omega)]
          rfl
        have b1 := lt_pow (ht n0 m0 (by omega)) (show 20000 < 20001 by omega)
        have b2 := lt_pow (hmc (i + 1) (by omega)) (show 2800 < 2900 by omega)
        refine ⟨_, rfl, _, rfl, _, rfl, _, rfl, _, _, rfl, rfl, .inl ⟨by omega, by omega⟩, _, _, rfl, rfl, D, _, _, _, rfl, rfl, hereL hY.1, eat2, ?_⟩
        refine ⟨_, rfl, _, rfl, _, _, rfl, rfl, r2, _, m0 + (i + 1), _, rfl, congrArg V.int eim, hereL f3, eget, ?_⟩
        refine ⟨_, rfl, _, rfl, a, _, _, _, rfl, rfl, hereL (s4 _ _ hT.1), eat, _, rfl, r, _, _, _, rfl, rfl, hereL (s4 _ _ hr1), at_firsts' (k := m0) (by omega) (by omega), _, rfl, _, _, rfl, rfl, wide_mul b1 b2 (by decide) (by decide) (by decide), _, _, rfl, rfl, r2, _, _, m0 + (i + 1), rfl, rfl, f3, (by
          rw [eim, vI_len, firsts_len]
          exact ixN_nat (by omega)), ?_⟩
        refine ⟨_, rfl, ?_, ?_⟩
        · exact same_upd_at s4 (O.2.2.2 r2 (List.mem_of_getElem? f1))
        · have hput := hY.put (m := m0 + (i + 1)) (x := mix t s x i n0 m0 (n0 + (i + 1) * s) (m0 + (i + 1)) + t n0 m0 * mc x (i + 1)) O f1 (by omega)
          exact hput.congr fun n m _ _ => (mix_step t s x i n0 m0 n m).symm
      · obtain ⟨y7, rfl, s4, hY⟩ := hP
        exact ⟨_, _, rfl, s4, hY.congr fun n m _ hm => mix_row t s x i n0 M n m hm⟩
    · obtain ⟨y6, y7, rfl, s3, hX⟩ := hP
      exact ⟨_, _, _, rfl, s3, hX.congr fun n m hn _ => mix_end t s x i N n m hn⟩
  · obtain ⟨y5, y6, y7, rfl, s2, hW⟩ := hP
    refine ⟨_, rfl, post _ _ ⟨D, R, rfl, s2, hW.congr fun n m hn _ => ?_⟩⟩
    rw [← hc]
    exact wp_same hs hn
end
end K64
end
section
set_option Elab.async false
set_option linter.all false
set_option maxRecDepth 100000
set_option maxHeartbeats 4000000
namespace K64
open PySem PySem.Spec PyProof.Rows L2 KM
section
variable {P : Program} {w : World} {K : PySem.W.Frag} {mg : Str → Option Value} {base : Heap}
/-- letters of doors, of names, a size, a number of primes -/
abbrev A4 := List Nat × List Nat × Nat × Nat
abbrev spCountWith : Sp := mkSp (fun a : A4 => [.str (sOf a.1), .str (sOf a.2.1), .int a.2.2.1, .int a.2.2.2]) (fun a _ => LtP (a.1, a.2.1) ∧ a.2.2.1 ≤ 8 ∧ a.2.2.2 ≤ 60)
  (fun a H v H' => v = .int (TT (q a.1.length a.2.1.length) a.2.2.1 a.2.2.1 a.2.2.2) ∧ Same H H')
theorem cl_countWith (T : Top K mg) : Cl P w K mg base 4 "count_with" spCountWith := by
  have G_counted : Cl P w K mg base 3 "counted" spCounted := cl_counted T
  have G_checkLetters : Cl P w K mg base 2 "check_letters" spCheckLetters := cl_checkLetters T
  have G_checkSize : Cl P w K mg base 3 "check_size" spCheckSize := cl_checkSize T
  have G_checkCount : Cl P w K mg base 3 "check_count" spCheck := cl_checkCount T
  have G_withPrimes : Cl P w K mg base 1 "with_primes" spWithPrimes := cl_withPrimes T
  obtain ⟨t1, m_MOST_SIZE⟩ := T.MOST_SIZE
  refine T.countWith.cal scCountWith (fun _ => rfl) (fun f cdv A outer s H a E Q hr pre post => ?_)
  obtain ⟨ds, ns, n, M⟩ := a
  obtain ⟨hLt, hn, hM⟩ := pre
  dsimp only at hLt hn hM post
  have hd8 : ds.length ≤ 8 := hLt.1.2
  have hn8 : ns.length ≤ 8 := hLt.2.2
  have nd := scCountWith.nd
  refine ⟨_, (pss_cons (ps_expr (pcl G_checkLetters hr (pa_cons (pv 0) (pa_cons (pv 1) pa_nil))))
      (pss_cons (ps_expr (pcl G_checkSize hr (pa_cons (pv 2) (pa_cons pe_int pa_nil))))
      (pss_cons (ps_expr (pcl G_checkCount hr (pa_cons (pv 3) (pa_cons pe_int (pa_cons (pe_glob (v := .int 60) rfl m_MOST_SIZE ⟨_, rfl⟩) pa_nil)))))
      (pss_cons (ps_setLc (i := 4) (own := [("n", 7)]) (g := gName 7) (by rfl) nd rfl rfl (sw_true rfl rfl rfl (by decide +kernel)) (pi_range1 (by rfl) T.range (pa_cons (pe_op op_add (pv 2) pe_int) pa_nil)) (blkOk_by (N := ["doors", "names", "size", "many", "table", "k", "sorts", "n", "m"]) (sc := defScope sCountWith) (by decide +kernel)) (fun _ _ _ _ _ => (pg_name (i := 7) nd rfl (Or.inr rfl))) (fun _ _ _ _ _ => pts_nil) (fun _ _ _ _ _ => (pe_lc (own := [("m", 8)]) (g := gName 8) (by rfl) nd (pi_range1 (by rfl) T.range (pa_cons (pe_op op_add (pv 3) pe_int) pa_nil)) (blkOk_by (by rfl)) (fun _ _ _ _ _ => (pg_name (i := 8) nd rfl (Or.inl rfl))) (fun _ _ _ _ _ => pts_nil) (fun _ _ _ _ _ => (pe_callTy call_int1 (by rfl) T.int (by decide +kernel) (pa_cons (pe_chain op_eq op_eq (pv 7) (pv 8) pe_int) pa_nil))))))
      (pss_cons (ps_for PassesOwn.never rfl (pi_enum (by rfl) T.enumerate (pa_cons (pe_ix (r := rIxT K) ix_tup (pcl G_counted hr (pa_cons (pe_callB (r := rLenK K) call_lenK (by rfl) T.len (by decide +kernel) (pa_cons (pv 0) pa_nil)) (pa_cons (pe_callB (r := rLenK K) call_lenK (by rfl) T.len (by decide +kernel) (pa_cons (pv 1) pa_nil)) (pa_cons (pv 2) pa_nil)))) pe_int (fun _ _ => rfl)) pa_nil)) (pg_tup rfl (pgs_cons (pg_name (i := 5) nd rfl (.inl rfl)) (pgs_cons (pg_name (i := 6) nd rfl (.inl rfl)) pgs_nil))) (pss_one (ps_if (pt_cmpR op_gt (pv 6) pe_int (nomark _)) (pss_one (ps_set (i := 4) nd rfl (.inl rfl) (pcl G_withPrimes hr (pa_cons (pv 4) (pa_cons (pv 5) (pa_cons (pv 6) pa_nil)))))) pss_nil)))
      (pss_one (ps_ret (pe_ix (r := rIxL K) ix_list (pe_ix (r := rIxL K) ix_list (pv 4) (pv 2) (fun _ _ => rfl)) (pv 3) (fun _ _ => rfl))))))))), ?_⟩
  refine ⟨_, rfl, _, rfl, (ds, ns), rfl, hLt, fun v H1 ⟨_, s1⟩ => ?_⟩
  refine ⟨_, rfl, ((n : Int), 0), rfl, ⟨by show (0 : Int) ≤ n; omega, by show ((n : Nat) : Int) ≤ 60; omega⟩, fun v H2 ⟨_, e2⟩ => ?_⟩
  subst e2
  refine ⟨_, rfl, ((M : Int), 0, 60), rfl, ⟨by show (0 : Int) ≤ M; omega, by show ((M : Nat) : Int) ≤ 60; omega⟩, fun v H3 ⟨_, e3⟩ => ?_⟩
  subst e3
  generalize hq : q (ds.length : Int) (ns.length : Int) = q0 at post
  -- table = [[int(n == m == 0) for m in range(many + 1)] for n in range(size + 1)]
  refine ⟨_, rfl, _, _, rfl, rfl, _, rfl, (by show -(2 ^ 62 : Int) ≤ (n : Int) + 1; omega), (by show (n : Int) + 1 < 2 ^ 62; omega), fun D nD => ?_⟩
  rw [show ((n : Int) + 1).toNat = n + 1 by omega]
  refine lc_range (fun i H4 => ∃ rs1 : List Addr, rs1.length = i ∧ Same H3 H4 ∧ H4 D = some (.lst (rs1.map V.ref)) ∧ D ∉ rs1 ∧ ∀ k r, rs1[k]? = some r → H4 r = some (.lst (vI (firsts (TT q0 0 k) (M + 1)))))
    ⟨[], rfl, same_upd nD, upd_same, (fun z => nomatch z), (fun k r e => by simp at e)⟩ (fun i H4 hi h => ?_) (fun H4 h => ?_)
  · obtain ⟨rs1, hl1, s4, hD, hDr, hrow⟩ := h
    refine ⟨rfl, _, rfl, _, _, rfl, rfl, _, rfl, (by show -(2 ^ 62 : Int) ≤ (M : Int) + 1; omega), (by show (M : Int) + 1 < 2 ^ 62; omega), fun D2 nD2 => ?_⟩
    refine lcR (m := M + 1) (fun _ => true) (fun m => .int (TT q0 0 i m)) (by show ((M : Int) + 1).toNat = M + 1; omega) (line1000 (by omega)) nD2 (fun _ => rfl) (fun m H5 hm s5 Q r => r) (fun m H5 hm _ s5 R r => ?_) (fun H5 s5 e5 => ?_)
    · refine ⟨_, rfl, _, rfl, rfl, _, rfl, ite2 (fun c => ?_) (fun c => ?_)⟩
      · refine ⟨rfl, .inr ⟨_, rfl, ?_⟩⟩
        have c1 : (0 : Int) + (i : Int) = 0 + (m : Int) := V.int.inj (of_decide_eq_true c)
        have ev : (if decide (V.int (0 + (m : Int)) = V.int 0) = true then (1 : Int) else 0) = TT q0 0 i m := by
          show _ = if i = 0 ∧ m = 0 then (1 : Int) else 0
          by_cases hm0 : m = 0
          · rw [if_pos (decide_eq_true (by rw [hm0]; rfl)), if_pos ⟨by omega, hm0⟩]
          · rw [if_neg (fun z => by have := V.int.inj (of_decide_eq_true z); omega), if_neg (fun z => hm0 z.2)]
        rw [ev]
        exact r _ (Same.refl _)
      · refine .inr ⟨_, rfl, ?_⟩
        have ev : TT q0 0 i m = 0 := if_neg fun z => c (decide_eq_true (by rw [z.1, z.2]))
        rw [show (if false = true then (1 : Int) else 0) = TT q0 0 i m from ev.symm]
        exact r _ (Same.refl _)
    have hDD : D ≠ D2 := ne_of_none hD nD2
    have eD : H5 D = some (.lst (rs1.map V.ref)) := s5 _ _ hD
    rw [sum_vals (fun m => TT q0 0 i m)] at e5
    refine ⟨_, eD, by rw [List.length_map]; exact small1000 (by omega), rs1 ++ [D2], by rw [List.length_append, hl1]; rfl, same_upd_at (s4.trans s5) nD, ?_, ?_, fun k r e => ?_⟩
    · rw [upd_same, List.map_append]
      rfl
    · intro z
      rcases List.mem_append.mp z with z | z
      · exact hDr z
      · exact hDD (List.mem_singleton.mp z)
    · by_cases hk : k < rs1.length
      · rw [List.getElem?_append_left hk] at e
        have hr2 : r ∈ rs1 := List.mem_of_getElem? e
        rw [upd_ne (fun z => hDr (by rw [← z]; exact hr2))]
        exact s5 _ _ (hrow k r e)
      · rw [List.getElem?_append_right (by omega)] at e
        have hk2 : k - rs1.length = 0 := by
          by_cases c : k - rs1.length = 0
          · exact c
          · rw [List.getElem?_eq_none (by simp; omega)] at e
            cases e
        rw [hk2] at e
        have eq : D2 = r := Option.some.inj e
        subst eq
        have hki : k = i := by omega
        subst hki
        rw [upd_ne hDD.symm]
        exact e5
  obtain ⟨rs, hrs, s4, hD, _, hrow⟩ := h
  have hT : TabAt H4 D rs (TT q0 0) n M := ⟨hD, hrs, hrow⟩
  clear hrs hD hrow
  -- for k, sorts in enumerate(counted(len(doors), len(names), size)[1])
  refine ⟨_, rfl, _, _, rfl, ⟨line1000 (by show ds.length ≤ 1000; omega), rfl⟩, _, rfl, _, _, rfl, ⟨line1000 (by show ns.length ≤ 1000; omega), rfl⟩, _, rfl, (ds.length, ns.length, n), rfl, ⟨hd8, hn8, by show n ≤ 60; omega⟩, fun v H5 ⟨t, x, y, ev, s5, e1, e2, e3⟩ => ?_⟩
  subst ev
  dsimp only at e1 e2 e3
  rw [hq] at e3
  refine ⟨t, _, _, _, rfl, rfl, hereT e1, atI_nat (j := 1) rfl, y, _, rfl, hereL e3, ?_⟩
  refine for_enum (xs := vI (firsts q0 (n + 1))) (fun i σ H' => ∃ D rs y5 y6, σ = [some (.str (sOf ds)), some (.str (sOf ns)), some (.int n), some (.int M), some (.ref D), y5, y6, none, none] ∧ Same H5 H' ∧ TabAt H' D rs (TT q0 (i - 1)) n M)
    ⟨D, rs, _, _, rfl, Same.refl _, hT.same s5⟩ (fun i σ H' _ h => ?_) (fun i z Tp σ H' hz h nT => ?_) (fun σ H' h => ?_)
  · obtain ⟨_, _, _, _, _, s6, _⟩ := h
    exact s6.seq (hereL e3)
  · obtain ⟨D, rs, y5, y6, rfl, s6, hT6⟩ := h
    have hi : i < n + 1 := by
      have := (List.getElem?_eq_some_iff.mp hz).1
      rwa [vI_len, firsts_len] at this
    have ez : z = .int (q0 i) := by
      unfold vI at hz
      rw [List.getElem?_map, firsts_at hi] at hz
      exact (Option.some.inj hz).symm
    subst ez
    have s7 : Same H5 (upd H' Tp (.tup [.int (i : Nat), .int (q0 i)])) := s6.trans (same_upd nT)
    have hT7 := hT6.same (same_upd (o := .tup [.int (i : Nat), .int (q0 i)]) nT)
    have hnn : 0 ≤ q0 i := by
      rw [← hq]
      exact q_nn hd8 hn8 (by omega)
    refine ⟨_, rfl, _, _, rfl, rfl, _, rfl, ite2 (fun c => ?_) (fun c => ?_)⟩
    · have c1 : (0 : Int) < q0 i := of_decide_eq_true c
      have hi0 : 0 < i := by
        by_cases h0 : i = 0
        · subst h0
          rw [← hq] at c1
          have : q (ds.length : Int) (ns.length : Int) 0 = 0 := q_zero
          omega
        · omega
      have hqa : ∀ k, 0 < k → k ≤ 8 → (q0 k).natAbs ≤ 2 ^ 300 := fun k h0 h8 => by
        rw [← hq]
        exact Nat.le_trans (q_abs1 (by omega) (by omega) h0 (by omega) (by omega) (by omega)) (pow_mono (by omega))
      refine ⟨_, rfl, _, rfl, _, rfl, ⟨D, rs, TT q0 (i - 1), n, M, i, q0 i⟩, rfl, ⟨hT7, ⟨hi0, by show i ≤ 60; omega⟩, hn, hM, hnn, hqa i hi0 (by omega), fun k m hk => ?_⟩, fun v H8 ⟨D', rs', ev, s8, hT8⟩ => ?_⟩
      · exact Nat.le_trans (TT_abs hqa (i - 1) k m (by omega) (by have : k ≤ n := hk; omega)) (pow_mono (by omega))
      subst ev
      refine ⟨D', rs', _, _, rfl, s7.trans s8, hT8.congr fun k m hk hm => ?_⟩
      obtain ⟨i, rfl⟩ : ∃ i', i = i' + 1 := ⟨i - 1, by omega⟩
      rfl
    · have c1 : q0 i = 0 := by
        have : ¬ (0 : Int) < q0 i := fun z => c (decide_eq_true z)
        omega
      refine ⟨D, rs, _, _, rfl, s7, hT7.congr fun k m hk hm => ?_⟩
      by_cases h0 : i = 0
      · subst h0
        rfl
      · obtain ⟨i, rfl⟩ : ∃ i', i = i' + 1 := ⟨i - 1, by omega⟩
        show TT q0 i k m = TT q0 (i + 1) k m
        rw [TT_succ, c1, wp_none]
  · obtain ⟨D, rs, y5, y6, rfl, s6, hT6⟩ := h
    rw [vI_len, firsts_len] at hT6
    obtain ⟨r, _, er2, hr1⟩ := hT6.row (n := n) (Nat.le_refl _)
    exact ⟨_, rfl, _, rfl, D, _, _, _, rfl, rfl, hereL hT6.1, atI_nat er2, _, rfl, r, _, _, _, rfl, rfl, hereL hr1, at_firsts (k := M) (by omega), post _ _ ⟨rfl, ((s1.trans s4).trans s5).trans s6⟩⟩
end
end K64
end
section
set_option Elab.async false
set_option linter.all false
set_option maxRecDepth 100000
set_option maxHeartbeats 4000000
namespace K64
open PySem PySem.Spec PyProof.Rows L2 KM
/-- where a tape stands, and its numbers -/
structure TR where
  (t sc : Addr) (ns : List Int)
/-- the tape: the numbers, and four ints -/
def Tp (H : Hp) (τ : TR) : Prop := ∃ a b c e : Int, H τ.t = some (.lst [.ref τ.sc, .int a, .int b, .int c, .int e]) ∧ H τ.sc = some (.lst (vI τ.ns)) ∧ τ.ns.length ≤ 63 ∧ 0 ≤ a ∧ 0 ≤ c ∧ c < 2147483647 ∧ τ.sc ≠ τ.t
theorem Tp.same {H H' : Hp} {τ : TR} (T : Tp H τ) (s : Same H H') : Tp H' τ := by
  obtain ⟨a, b, c, e, h1, h2, r⟩ := T
  exact ⟨a, b, c, e, s _ _ h1, s _ _ h2, r⟩
/-- the tape goes on, all else stays -/
def Go (τ : TR) (H H' : Hp) : Prop := But τ.t H H' ∧ Tp H' τ
theorem Go.refl {τ : TR} {H : Hp} (T : Tp H τ) : Go τ H H := ⟨But.refl τ.t H, T⟩
theorem Go.trans {τ : TR} {H H1 H2 : Hp} (a : Go τ H H1) (b : Go τ H1 H2) : Go τ H H2 := ⟨a.1.trans b.1, b.2⟩
theorem Go.same {τ : TR} {H H1 H2 : Hp} (a : Go τ H H1) (b : Same H1 H2) : Go τ H H2 := ⟨a.1.trans (sameBut b), a.2.same b⟩
theorem Tp.ne {τ : TR} {H : Hp} {D : Addr} (T : Tp H τ) (hD : H D = none) : τ.t ≠ D ∧ τ.sc ≠ D := by
  obtain ⟨a, b, c, e, h1, h2, _⟩ := T
  exact ⟨ne_of_none h1 hD, ne_of_none h2 hD⟩
/-- a thing that is new since H is changed -/
theorem Go.upd {τ : TR} {H H1 : Hp} {D : Addr} {o : HO} (g : Go τ H H1) (n : τ.t ≠ D ∧ τ.sc ≠ D) (hD : H D = none) : Go τ H (upd H1 D o) := by
  refine ⟨fun b x nb e => ?_, ?_⟩
  · rw [upd_ne (ne_of_none e hD)]
    exact g.1 b x nb e
  · obtain ⟨a, b, c, e, h1, h2, r⟩ := g.2
    exact ⟨a, b, c, e, by rw [upd_ne n.1]; exact h1, by rw [upd_ne n.2]; exact h2, r⟩
theorem Tp.put {H : Hp} {τ : TR} {a b c e : Int} (h2 : H τ.sc = some (.lst (vI τ.ns))) (hl : τ.ns.length ≤ 63) (ha : 0 ≤ a) (hc : 0 ≤ c) (hc2 : c < 2147483647) (hne : τ.sc ≠ τ.t) :
    Tp (L2.upd H τ.t (.lst [.ref τ.sc, .int a, .int b, .int c, .int e])) τ := ⟨a, b, c, e, upd_same, by rw [upd_ne hne]; exact h2, hl, ha, hc, hc2, hne⟩
section
variable {P : Program} {w : World} {K : PySem.W.Frag} {mg : Str → Option Value} {base : Heap}
abbrev spLawTape (K : PySem.W.Frag) : Sp := mkSp (fun z : Addr × List Int => [.ref z.1]) (fun z H => SqL K H z.1 (vI z.2) ∧ z.2.length ≤ 63) (fun z H v H' => ∃ τ : TR, v = .ref τ.t ∧ Same H H' ∧ Tp H' τ)
theorem cl_lawTape (T : Top K mg) : Cl P w K mg base 1 "_law_tape" (spLawTape K) := by
  refine T.lawTape.cal scLawTape (fun _ => rfl) (fun f cdv A outer s H z E Q hr pre post => ?_)
  obtain ⟨a, ns⟩ := z
  obtain ⟨ha, hl⟩ := pre
  have nd := scLawTape.nd
  refine ⟨_, (pss_one (ps_ret (pe_lst (pa_cons (pe_callTy (r := rListOf K) call_listOf (by rfl) T.list (by decide +kernel) (pa_cons (pv 0) pa_nil)) (pa_cons pe_int (pa_cons pe_int (pa_cons pe_int (pa_cons pe_int pa_nil)))))))), ?_⟩
  refine ⟨_, rfl, a, _, rfl, .inl ha, fun l nl => ⟨(by show 5 ≤ sizeLine; decide), fun t nt => ?_⟩⟩
  have hlt : l ≠ t := fun e => by
    rw [← e, upd_same] at nt
    cases nt
  refine post _ _ ⟨⟨t, l, ns⟩, rfl, (same_upd nl).trans (same_upd nt), 0, 0, 1, 0, upd_same, ?_, hl, by decide, by decide, by decide, hlt⟩
  rw [upd_ne hlt, upd_same]

abbrev spLawPick : Sp := mkSp (fun z : TR × Int => [.ref z.1.t, .int z.2]) (fun z H => Tp H z.1 ∧ 1 ≤ z.2 ∧ z.2 ≤ 1000) (fun z H v H' => ∃ r : Int, v = .int r ∧ 0 ≤ r ∧ r < z.2 ∧ Go z.1 H H')
theorem cl_lawPick (T : Top K mg) : Cl P w K mg base 1 "_law_pick" spLawPick := by
  refine T.lawPick.cal scLawPick (fun _ => rfl) (fun f cdv A outer s H z E Q hr pre post => ?_)
  obtain ⟨⟨t, sc, ns⟩, m⟩ := z
  obtain ⟨hT, hm1, hm2⟩ := pre
  dsimp only at hT hm1 hm2 post
  obtain ⟨a, b, c, e, h1, h2, hl, ha, hc, hc2, hne⟩ := hT
  dsimp only at h1 h2 hl hne
  have nd := scLawPick.nd
  refine ⟨_, (pss_cons (ps_if (pt_cmpR op_gt (pe_ix (r := rIxL K) ix_list (pv 0) pe_int (fun _ _ => rfl)) pe_int (nomark _)) (pss_cons (ps_set (i := 2) nd rfl (.inl rfl) (pe_op op_mod (pe_callTy call_int1 (by rfl) T.int (by decide +kernel) (pa_cons (pe_ix (r := rIxL K) ix_list (pv 0) pe_int (fun _ _ => rfl)) pa_nil)) (pv 1)))
      (pss_cons (ps_asg (pe_op op_fdiv (pe_ix (r := rIxL K) ix_list (pv 0) pe_int (fun _ _ => rfl)) (pv 1)) (pg_sub (pv 0) pe_int set_list))
      (pss_one (ps_ret (pv 2))))) pss_nil)
      (pss_cons (ps_asg (pe_op op_add (pe_ix (r := rIxL K) ix_list (pv 0) pe_int (fun _ _ => rfl)) pe_int) (pg_sub (pv 0) pe_int set_list))
      (pss_cons (ps_set (i := 3) nd rfl (.inl rfl) pe_int)
      (pss_cons (ps_if (pt_cmpR op_lt (pe_ix (r := rIxL K) ix_list (pv 0) pe_int (fun _ _ => rfl)) (pe_callB (r := rLenK K) call_lenK (by rfl) T.len (by decide +kernel) (pa_cons (pe_ix (r := rIxL K) ix_list (pv 0) pe_int (fun _ _ => rfl)) pa_nil)) (nomark _)) (pss_cons (ps_set (i := 3) nd rfl (.inl rfl) (pe_ix (r := rIxL K) ix_list (pe_ix (r := rIxL K) ix_list (pv 0) pe_int (fun _ _ => rfl)) (pe_ix (r := rIxL K) ix_list (pv 0) pe_int (fun _ _ => rfl)) (fun _ _ => rfl)))
      (pss_one (ps_asg (pe_op op_add (pe_ix (r := rIxL K) ix_list (pv 0) pe_int (fun _ _ => rfl)) pe_int) (pg_sub (pv 0) pe_int set_list)))) pss_nil)
      (pss_cons (ps_if (pt_cmpR op_ge (pv 3) (pe_op op_pow pe_int pe_int) (nomark _)) (pss_cons (ps_asg (pe_op op_fdiv (pv 3) (pv 1)) (pg_sub (pv 0) pe_int set_list))
      (pss_one (ps_ret (pe_op op_mod (pe_callTy call_int1 (by rfl) T.int (by decide +kernel) (pa_cons (pv 3) pa_nil)) (pv 1))))) pss_nil)
      (pss_cons (ps_set (i := 4) nd rfl (.inl rfl) (pe_op op_mod (pe_callTy call_int1 (by rfl) T.int (by decide +kernel) (pa_cons (pe_op op_add (pe_op op_add (pe_op op_mul (pe_ix (r := rIxL K) ix_list (pv 0) pe_int (fun _ _ => rfl)) pe_int) (pe_op op_mod (pe_callTy call_int1 (by rfl) T.int (by decide +kernel) (pa_cons (pv 3) pa_nil)) pe_int)) (pe_op op_mul (pe_ix (r := rIxL K) ix_list (pv 0) pe_int (fun _ _ => rfl)) pe_int)) pa_nil)) pe_int))
      (pss_cons (ps_set (i := 4) nd rfl (.inl rfl) (pe_op op_mod (pe_callTy call_int1 (by rfl) T.int (by decide +kernel) (pa_cons (pe_op op_mul (pv 4) (pe_op op_add (pe_op op_fdiv (pv 4) pe_int) pe_int)) pa_nil)) pe_int))
      (pss_cons (ps_asg (pv 4) (pg_sub (pv 0) pe_int set_list))
      (pss_one (ps_ret (pe_op op_mod (pe_callTy call_int1 (by rfl) T.int (by decide +kernel) (pa_cons (pe_op op_fdiv (pv 4) pe_int) pa_nil)) (pv 1)))))))))))), ?_⟩
  -- if tape[2] > 1
  refine ⟨_, rfl, t, _, _, _, rfl, rfl, hereL h1, atI_nat (j := 2) rfl, _, _, rfl, rfl, _, rfl, ite2 (fun cc => ?_) (fun cc => ?_)⟩
  · refine ⟨_, rfl, t, _, _, _, rfl, rfl, hereL h1, atI_nat (j := 2) rfl, .inl ⟨_, rfl, _, rfl, _, _, rfl, rfl, (by show (0 : Int) < m; omega), ?_⟩⟩
    refine ⟨_, rfl, t, _, _, _, rfl, rfl, hereL h1, atI_nat (j := 2) rfl, _, rfl, _, _, rfl, rfl, ⟨(by show (0 : Int) < m; omega), (by show m < 1073741824; omega)⟩, _, rfl, t, _, _, 2, rfl, rfl, h1, ixN_nat (k := 2) (by show 2 < 5; decide), ?_⟩
    refine ⟨_, rfl, post _ _ ⟨_, rfl, Int.emod_nonneg _ (by omega), Int.emod_lt_of_pos _ (by omega), but_upd, .put h2 hl ha hc hc2 hne⟩⟩
  -- tape[4] = tape[4] + 1
  refine ⟨_, rfl, t, _, _, _, rfl, rfl, hereL h1, atI_nat (j := 4) rfl, _, _, rfl, rfl, _, rfl, t, _, _, 4, rfl, rfl, h1, ixN_nat (k := 4) (by show 4 < 5; decide), ?_⟩
  generalize hH1 : upd H t (.lst ([V.ref sc, .int a, .int b, .int c, .int e].set 4 (.int (e + 1)))) = H1
  have k1 : H1 t = some (.lst [.ref sc, .int a, .int b, .int c, .int (e + 1)]) := by
    rw [← hH1]
    exact upd_same
  have k2 : H1 sc = some (.lst (vI ns)) := by
    rw [← hH1, upd_ne hne]
    exact h2
  have kb : But t H H1 := by
    rw [← hH1]
    exact but_upd
  clear hH1
  -- cell
  refine ⟨_, rfl, t, _, _, _, rfl, rfl, hereL k1, atI_nat (j := 1) rfl, _, rfl, t, _, _, _, rfl, rfl, hereL k1, atI_nat (j := 0) rfl, _, _, rfl, .inl ⟨_, hereL k2, rfl⟩, _, _, rfl, rfl, _, rfl, ?_⟩
  refine ifS_join (fun σ H2 => ∃ (a2 cell : Int), σ = [some (.ref t), some (.int m), none, some (.int cell), none] ∧ H2 t = some (.lst [.ref sc, .int a2, .int b, .int c, .int (e + 1)]) ∧ H2 sc = some (.lst (vI ns)) ∧ But t H H2 ∧ 0 ≤ a2) (fun c1 N hN => ?_) (fun c1 N hN => ?_) (fun σ H2 hG => ?_)
  · have c2 : a < ((vI ns).length : Int) := of_decide_eq_true c1
    obtain ⟨i, rfl⟩ : ∃ i : Nat, a = (i : Int) := ⟨a.toNat, by omega⟩
    have hi : i < ns.length := by
      rw [vI_len] at c2
      omega
    refine ⟨_, rfl, t, _, _, _, rfl, rfl, hereL k1, atI_nat (j := 0) rfl, _, rfl, t, _, _, _, rfl, rfl, hereL k1, atI_nat (j := 1) rfl, sc, _, _, _, rfl, rfl, hereL k2, at_vI (List.getElem?_eq_getElem hi), ?_⟩
    refine ⟨_, rfl, t, _, _, _, rfl, rfl, hereL k1, atI_nat (j := 1) rfl, _, _, rfl, rfl, _, rfl, t, _, _, 1, rfl, rfl, k1, ixN_nat (k := 1) (by show 1 < 5; decide), hN _ _ ⟨_, _, rfl, upd_same, (upd_ne hne).trans k2, kb.trans but_upd, ?_⟩⟩
    omega
  · exact hN _ _ ⟨_, _, rfl, k1, k2, kb, ha⟩
  obtain ⟨a2, cell, rfl, g1, g2, gb, ga⟩ := hG
  -- if cell >= 10 ** 18
  refine ⟨_, rfl, _, _, rfl, rfl, ⟨by decide, by decide, by decide⟩, _, _, rfl, rfl, _, rfl, ite2 (fun c1 => ?_) (fun c1 => ?_)⟩
  · refine ⟨_, rfl, _, rfl, _, _, rfl, rfl, ⟨(by show (0 : Int) < m; omega), (by show m < 1073741824; omega)⟩, _, rfl, t, _, _, 2, rfl, rfl, g1, ixN_nat (k := 2) (by show 2 < 5; decide), ?_⟩
    refine ⟨_, rfl, .inl ⟨_, rfl, _, rfl, _, _, rfl, rfl, (by show (0 : Int) < m; omega), post _ _ ⟨_, rfl, Int.emod_nonneg _ (by omega), Int.emod_lt_of_pos _ (by omega), gb.trans but_upd, .put g2 hl ga hc hc2 hne⟩⟩⟩
  -- mixed
  refine ⟨_, rfl, t, _, _, _, rfl, rfl, hereL g1, atI_nat (j := 3) rfl, _, _, rfl, rfl, .inl ⟨by omega, by omega⟩, _, rfl, .inl ⟨_, rfl, _, _, rfl, rfl, (by show (0 : Int) < 2147483629; decide), _, _, rfl, rfl, _, rfl, t, _, _, _, rfl, rfl, hereL g1, atI_nat (j := 4) rfl, _, _, rfl, rfl, .inr ⟨by decide, by decide⟩, _, _, rfl, rfl, .inl ⟨_, rfl, _, _, rfl, rfl, (by show (0 : Int) < 2147483647; decide), ?_⟩⟩⟩
  refine ⟨_, rfl, _, rfl, _, _, rfl, rfl, ⟨by decide, by decide⟩, _, _, rfl, rfl, _, _, rfl, rfl, .inl ⟨by omega, by omega⟩, .inl ⟨_, rfl, _, _, rfl, rfl, (by show (0 : Int) < 2147483399; decide), ?_⟩⟩
  refine ⟨_, rfl, _, rfl, t, _, _, 3, rfl, rfl, g1, ixN_nat (k := 3) (by show 3 < 5; decide), ?_⟩
  refine ⟨_, rfl, _, _, rfl, rfl, ⟨by decide, by decide⟩, .inl ⟨_, rfl, _, rfl, _, _, rfl, rfl, (by show (0 : Int) < m; omega), post _ _ ⟨_, rfl, Int.emod_nonneg _ (by omega), Int.emod_lt_of_pos _ (by omega), gb.trans but_upd, .put g2 hl ga (Int.emod_nonneg _ (by decide)) (Int.lt_trans (Int.emod_lt_of_pos _ (by decide)) (by decide)) hne⟩⟩⟩
end
end K64
end
section
set_option Elab.async false
set_option linter.all false
set_option maxRecDepth 100000
set_option maxHeartbeats 4000000
namespace K64
open PySem PySem.Spec PyProof.Rows L2 KM SS2
/-! ### letters drawn -/
theorem lt1 (c d : Nat) : ltCps (sOf [c]).cps.toList (sOf [d]).cps.toList = decide (c < d) := by
  show (c < d || (c == d && false)) = decide (c < d)
  simp
theorem rising1 : ∀ (cs : List Nat) (p : Nat), risingS (sOf [p]) (cs.map fun c => sOf [c]) = true → (p :: cs).Pairwise (· ≤ ·)
  | [], p, _ => by simp
  | c :: cs, p, h => by
    have h' : (!ltCps (sOf [c]).cps.toList (sOf [p]).cps.toList && risingS (sOf [c]) (cs.map fun c => sOf [c])) = true := h
    rw [lt1, Bool.and_eq_true] at h'
    obtain ⟨h1, h2⟩ := h'
    have h3 : p ≤ c := by simpa using h1
    have ih := rising1 cs c h2
    refine List.pairwise_cons.mpr ⟨fun x hx => ?_, ih⟩
    rcases List.mem_cons.mp hx with z | z
    · rw [z]
      exact h3
    · exact Nat.le_trans h3 ((List.pairwise_cons.mp ih).1 x z)
theorem sorted1 : ∀ cs : List Nat, sortedS (cs.map fun c => sOf [c]) = true → cs.Pairwise (· ≤ ·)
  | [], _ => List.Pairwise.nil
  | c :: cs, h => rising1 cs c h
theorem strict_of : ∀ cs : List Nat, cs.Pairwise (· ≤ ·) → cs.Nodup → cs.Pairwise (· < ·)
  | [], _, _ => List.Pairwise.nil
  | c :: cs, h, d => by
    obtain ⟨h1, h2⟩ := List.pairwise_cons.mp h
    obtain ⟨d1, d2⟩ := List.nodup_cons.mp d
    refine List.pairwise_cons.mpr ⟨fun y hy => ?_, strict_of cs h2 d2⟩
    have := h1 y hy
    have : c ≠ y := fun z => d1 (z ▸ hy)
    omega
/-- texts of one letter each are the letters -/
theorem ones : ∀ ys : List Str, (∀ x ∈ ys, ∃ c, 97 ≤ c ∧ c ≤ 122 ∧ x = sOf [c]) → ∃ cs : List Nat, ys = cs.map (fun c => sOf [c]) ∧ ∀ c ∈ cs, 97 ≤ c ∧ c ≤ 122
  | [], _ => ⟨[], rfl, fun c h => nomatch h⟩
  | y :: ys, h => by
    obtain ⟨c, h1, h2, rfl⟩ := h y List.mem_cons_self
    obtain ⟨cs, rfl, hc⟩ := ones ys fun x hx => h x (List.mem_cons_of_mem _ hx)
    refine ⟨c :: cs, rfl, fun d hd => ?_⟩
    rcases List.mem_cons.mp hd with z | z
    · rw [z]
      exact ⟨h1, h2⟩
    · exact hc d z
theorem letters_of {ys L : List Str} (pm : ys.Perm L) (nd : L.Nodup) (so : sortedS ys = true) (hL : ∀ x ∈ L, ∃ c, 97 ≤ c ∧ c ≤ 122 ∧ x = sOf [c]) : ∃ cs : List Nat, ys = cs.map (fun c => sOf [c]) ∧ Lt cs := by
  obtain ⟨cs, rfl, hc⟩ := ones ys fun x hx => hL x (pm.mem_iff.mp hx)
  refine ⟨cs, rfl, hc, strict_of cs (sorted1 cs so) ?_⟩
  have h1 : (cs.map fun c => sOf [c]).Nodup := pm.nodup_iff.mpr nd
  exact (List.pairwise_map.mp h1).imp fun hne z => hne (by rw [z])
theorem joinL_nil : ∀ cs : List Nat, TL.joinL [] (cs.map fun c => [c]) = cs
  | [] => rfl
  | [c] => rfl
  | c :: d :: cs => by
    show [c] ++ ([] ++ TL.joinL [] ((d :: cs).map fun c => [c])) = c :: d :: cs
    rw [joinL_nil (d :: cs)]
    rfl
theorem join_ones (cs : List Nat) : Txt.join (sOf []) (cs.map fun c => sOf [c]) = sOf cs := by
  have h := SX.join_S [] (cs.map fun c => [c])
  rw [List.map_map, joinL_nil] at h
  exact h
theorem ones_len (cs : List Nat) : ((cs.map fun c => sOf [c]).map (·.length)).sum = cs.length := by
  induction cs with
  | nil => rfl
  | cons c cs ih =>
    rw [List.map_cons, List.map_cons, List.sum_cons, ih]
    show 1 + cs.length = cs.length + 1
    omega
theorem small_at {r : Int} (h0 : 0 ≤ r) (h : r < 26) : atI smallS.cps.toList r = some (97 + r.toNat) := by
  obtain ⟨n, rfl⟩ : ∃ n : Nat, r = (n : Int) := ⟨r.toNat, by omega⟩
  refine atI_nat ?_
  rw [small_codes, List.getElem?_map, List.getElem?_range (by omega)]
  show some (n + 97) = some (97 + (n : Int).toNat)
  rw [Nat.add_comm]
  rfl
section
variable {P : Program} {w : World} {K : PySem.W.Frag} {mg : Str → Option Value} {base : Heap}
abbrev spLetters : Sp := mkSp (fun z : TR × Nat => [.ref z.1.t, .int z.2]) (fun z H => Tp H z.1 ∧ z.2 ≤ 60) (fun z H v H' => ∃ cs, v = .str (sOf cs) ∧ Lt cs ∧ cs.length ≤ z.2 ∧ Go z.1 H H')
theorem cl_lawLetters (T : Top K mg) : Cl P w K mg base 2 "_law_letters" spLetters := by
  have G_lawPick : Cl P w K mg base 1 "_law_pick" spLawPick := cl_lawPick T
  refine T.lawLetters.cal scLawLetters (fun _ => rfl) (fun f cdv A outer s H z E Q hr pre post => ?_)
  obtain ⟨τ, m⟩ := z
  obtain ⟨hT, hm⟩ := pre
  dsimp only at hT hm post
  have nd := scLawLetters.nd
  refine ⟨_, (pss_cons (ps_set (i := 2) nd rfl (.inr rfl) pe_str)
      (pss_one (ps_ret (pe_join pe_str (pe_callB (r := rSortedSS w) (cr_sortedSS rfl) (by rfl) T.sorted (by decide +kernel) (pa_cons (pe_callTy (r := rSetOfS K w) (cr_setOfS rfl) (by rfl) T.set (by decide +kernel) (pa_cons (pe_lc (own := [("_law_k", 3)]) (g := gName 3) (by rfl) nd (pi_range1 (by rfl) T.range (pa_cons (pv 1) pa_nil)) (blkOk_by (N := ["_law_tape_here", "_law_most", "_law_signs", "_law_k"]) (sc := defScope sLawLetters) (by decide +kernel)) (fun _ _ _ _ _ => (pg_name (i := 3) nd rfl (Or.inl rfl))) (fun _ _ _ _ _ => pts_nil) (fun _ _ _ _ _ => (pe_ix (r := rIxS) ix_str (pv 2) (pcl G_lawPick hr (pa_cons (pv 0) (pa_cons pe_int pa_nil))) (fun _ _ => rfl)))) pa_nil)) pa_nil)))))), ?_⟩
  refine ⟨⟨_, rfl⟩, _, rfl, _, rfl, (by show -(2 ^ 62 : Int) ≤ (m : Int); omega), (by show (m : Int) < 2 ^ 62; omega), fun D nD => ?_⟩
  have ne := hT.ne nD
  rw [show ((m : Int)).toNat = m from rfl]
  refine lc_range (fun i H1 => Go τ H H1 ∧ ∃ xs : List Str, xs.length = i ∧ H1 D = some (.lst (xs.map V.str)) ∧ ∀ x ∈ xs, ∃ c, 97 ≤ c ∧ c ≤ 122 ∧ x = sOf [c]) ⟨(Go.refl hT).upd ne nD, [], rfl, upd_same, fun x h => nomatch h⟩ (fun i H1 hi h => ?_) (fun H1 h => ?_)
  · obtain ⟨g, xs, hl, hD, hx⟩ := h
    refine ⟨rfl, _, rfl, _, rfl, (τ, 26), rfl, ⟨g.2, (by show (1 : Int) ≤ 26; decide), (by show (26 : Int) ≤ 1000; decide)⟩, fun v H2 ⟨r, ev, r0, r1, g2⟩ => ?_⟩
    subst ev
    refine ⟨_, _, _, rfl, rfl, line1000 (by decide +kernel), small_at r0 r1, _, (g2.1 _ _ ne.1.symm hD), by rw [List.length_map]; exact small1000 (by omega), (g.trans g2).upd ne nD, xs ++ [sOf [97 + r.toNat]], by rw [List.length_append, hl]; rfl, ?_, fun x hx2 => ?_⟩
    · rw [upd_same, List.map_append]
      rfl
    · rcases List.mem_append.mp hx2 with z | z
      · exact hx x z
      · have r1' : r < 26 := r1
        exact ⟨97 + r.toNat, by omega, by omega, List.mem_singleton.mp z⟩
  obtain ⟨g, xs, hl, hD, hx⟩ := h
  refine ⟨D, xs, rfl, hereL hD, by omega, fun a L na ndL hLl hmem => ?_⟩
  refine ⟨a, L, rfl, upd_same, fun ys pp pm so np => ?_⟩
  obtain ⟨cs, rfl, hLt⟩ := letters_of pm ndL so fun x hx2 => hx x ((hmem x).mp hx2)
  have hcl : cs.length ≤ m := by
    have := pm.length_eq
    rw [List.length_map] at this
    omega
  refine ⟨_, pp, _, rfl, rfl, .inl (hereL upd_same), ?_, ?_⟩
  · rw [ones_len, List.length_map]
    show cs.length + cs.length * 0 ≤ 16777216
    omega
  · have e := join_ones cs
    rw [show (Str.ofString "") = sOf [] from rfl, e]
    have ha : H a = none := by
      cases q : H a with
      | none => rfl
      | some o =>
        by_cases c : a = τ.t
        · obtain ⟨_, _, _, _, k, _⟩ := g.2
          rw [c, k] at na
          cases na
        · have := g.1 a o c q
          rw [na] at this
          cases this
    have g3 : Go τ H (upd H1 a (SetSO w a L)) := g.upd (hT.ne ha) ha
    have hp : H pp = none := by
      cases q : H pp with
      | none => rfl
      | some o =>
        by_cases c : pp = τ.t
        · obtain ⟨_, _, _, _, k, _⟩ := g3.2
          rw [c, k] at np
          cases np
        · have := g3.1 pp o c q
          rw [np] at this
          cases this
    exact post _ _ ⟨cs, rfl, hLt, hcl, g3.upd (hT.ne hp) hp⟩

abbrev spLawIsInt : Sp := mkSp (fun i : Int => [.int i]) (fun _ _ => True) (fun _ H v H' => v = .bl true ∧ H' = H)
theorem cl_lawIsInt (T : Top K mg) : Cl P w K mg base 1 "_law_is_int" spLawIsInt := by
  refine T.lawIsInt.cal scLawIsInt (fun _ => rfl) (fun f cdv A outer s H i E Q hr _ q => ?_)
  refine ⟨_, (pss_one (ps_ret (pe_and (pe_callB (r := rIsi K) call_isi (by rfl) T.isinstance (by decide +kernel) (pa_cons (pv 0) (pa_cons (pe_bltn (v := .ty "int") (by rfl) T.int (by decide +kernel) rfl) pa_nil))) (pe_one (pe_not (pe_callB (r := rIsi K) call_isi (by rfl) T.isinstance (by decide +kernel) (pa_cons (pv 0) (pa_cons (pe_bltn (v := .ty "bool") (by rfl) T.bool (by decide +kernel) rfl) pa_nil)))))))), ?_⟩
  refine ⟨_, rfl, _, _, _, _, true, rfl, .ty "int", ty_int, kit_ty (by decide +kernel), true, rfl, ?_⟩
  refine iteT ?_
  refine ⟨_, rfl, _, _, _, _, false, rfl, .ty "bool", ty_int, kit_ty (by decide +kernel), false, rfl, ?_⟩
  exact q _ _ ⟨rfl, rfl⟩

abbrev spLawBags : Sp := mkSp (fun z : Int × Nat => [.int z.1, .int z.2]) (fun z _ => z.1.natAbs ≤ 2 ^ 300 ∧ z.2 ≤ 8) (fun z H v H' => v = .int (mc z.1 z.2) ∧ H' = H)
theorem cl_lawBags (T : Top K mg) : Cl P w K mg base 1 "_law_bags" spLawBags := by
  refine T.lawBags.cal scLawBags (fun _ => rfl) (fun f cdv A outer s H z E Q hr pre post => ?_)
  obtain ⟨x, m⟩ := z
  obtain ⟨hx, hm⟩ := pre
  dsimp only at hx hm post
  have nd := scLawBags.nd
  refine ⟨_, (pss_cons (ps_set (i := 2) nd rfl (.inl rfl) pe_int)
      (pss_cons (ps_for PassesOwn.never rfl (pi_range1 (by rfl) T.range (pa_cons (pv 1) pa_nil)) (pg_name (i := 3) nd rfl (.inl rfl)) (pss_one (ps_set (i := 2) nd rfl (.inl rfl) (pe_op op_fdiv (pe_op op_mulW (pv 2) (pe_op op_add (pv 0) (pv 3))) (pe_op op_add (pv 3) pe_int)))))
      (pss_one (ps_ret (pv 2))))), ?_⟩
  refine ⟨_, rfl, _, rfl, (by show -(2 ^ 62 : Int) ≤ (m : Int); omega), (by show (m : Int) < 2 ^ 62; omega), ?_⟩
  rw [show ((m : Int)).toNat = m from rfl]
  refine for_range (fun i σ H' => ∃ y, σ = [some (.int x), some (.int m), some (.int (mc x i)), y] ∧ H' = H) ⟨_, rfl, rfl⟩ (fun i σ H' hi h => ?_) (fun σ H' h => ?_)
  · obtain ⟨y, rfl, rfl⟩ := h
    have e1 : 2 ^ 301 = 2 ^ 300 + 2 ^ 300 := by
      rw [Nat.pow_succ 2 300]
      exact Nat.mul_two _
    have e2 : 2 ^ 4 ≤ 2 ^ 300 := pow_mono (by omega)
    have b1 : (mc x i).natAbs < 2 ^ 2900 := lt_pow (mc_abs (a := 301) i (by omega)) (by omega)
    have b2 : (x + (0 + (i : Int))).natAbs < 2 ^ 302 := by
      have e3 : 2 ^ 302 = 2 ^ 301 + 2 ^ 301 := by
        rw [Nat.pow_succ 2 301]
        exact Nat.mul_two _
      omega
    refine ⟨_, rfl, _, rfl, _, rfl, _, _, rfl, rfl, _, _, rfl, rfl, wide_mul b1 b2 (by decide) (by decide) (by decide), _, rfl, _, _, rfl, rfl, _, _, rfl, rfl, ⟨(by omega), (by omega)⟩, some (.int (0 + (i : Int))), ?_, rfl⟩
    have ez : mc x i * (x + (0 + (i : Int))) / (0 + (i : Int) + 1) = mc x (i + 1) := by
      show _ = mc x i * (x + (i : Int)) / ((i + 1 : Nat) : Int)
      congr 2 <;> omega
    show [some (V.int x), some (V.int (m : Int)), some (V.int (mc x i * (x + (0 + (i : Int))) / (0 + (i : Int) + 1))), some (V.int (0 + (i : Int)))] = _
    rw [ez]
  · obtain ⟨y, rfl, rfl⟩ := h
    exact ⟨_, rfl, post _ _ ⟨rfl, rfl⟩⟩

abbrev spLawWaits : Sp := sp3 (fun a => okA a ∧ 1 ≤ a.2.2) fun a => a.1.length * pw a.2.2 (p a.1.length ((a.2.1.length : Nat) + 1))
theorem cl_lawWaits (T : Top K mg) : Cl P w K mg base 6 "_law_waits" spLawWaits := by
  have G_count : Cl P w K mg base 5 "count" (sp3 okA fun a => p a.1.length a.2.1.length a.2.2) := cl_count T
  have G_countPrimes : Cl P w K mg base 4 "count_primes" (sp3 (fun a => okA a ∧ 1 ≤ a.2.2) fun a => q a.1.length a.2.1.length a.2.2) := cl_countPrimes T
  refine T.lawWaits.cal scLawWaits (fun _ => rfl) (fun f cdv A outer s H a E Q hr pre post => ?_)
  obtain ⟨ds, ns, n⟩ := a
  obtain ⟨⟨hLt, h60⟩, h1⟩ := pre
  dsimp only at hLt h60 h1 post
  have hd8 : ds.length ≤ 8 := hLt.1.2
  have hn8 : ns.length ≤ 8 := hLt.2.2
  have nd := scLawWaits.nd
  refine ⟨_, (pss_one (ps_ret (pe_op op_sub (pe_op op_sub (pcl G_countPrimes hr (pa_cons (pv 0) (pa_cons (pv 1) (pa_cons (pv 2) pa_nil)))) (pe_op op_mul (pe_callTy call_int1 (by rfl) T.int (by decide +kernel) (pa_cons (pe_cmpR op_eq (pv 2) pe_int (nomark _)) pa_nil)) (pe_callB (r := rLenK K) call_lenK (by rfl) T.len (by decide +kernel) (pa_cons (pv 1) pa_nil)))) (pe_op op_mul (pe_callB (r := rLenK K) call_lenK (by rfl) T.len (by decide +kernel) (pa_cons (pv 0) pa_nil)) (pcl G_count hr (pa_cons (pv 0) (pa_cons (pv 1) (pa_cons (pe_op op_sub (pv 2) pe_int) pa_nil)))))))), ?_⟩
  refine ⟨_, rfl, _, rfl, _, rfl, (ds, ns, n), rfl, ⟨⟨hLt, h60⟩, h1⟩, fun v H1 ⟨ev, s1⟩ => ?_⟩
  subst ev
  refine ⟨_, rfl, rfl, .inr ⟨_, rfl, _, rfl, _, _, rfl, ⟨line1000 (by show ns.length ≤ 1000; omega), rfl⟩, _, _, rfl, rfl, .inl ⟨by split <;> decide, by split <;> decide⟩, _, _, rfl, rfl, _, rfl, _, _, rfl, ⟨line1000 (by show ds.length ≤ 1000; omega), rfl⟩, _, rfl, _, rfl, _, rfl, _, _, rfl, rfl, (ds, ns, n - 1), ?_, ⟨hLt, by show n - 1 ≤ 60; omega⟩, fun v H2 ⟨ev2, s2⟩ => ?_⟩⟩
  · show [V.str (sOf ds), V.str (sOf ns), V.int ((n : Int) - 1)] = [V.str (sOf ds), V.str (sOf ns), V.int ((n - 1 : Nat) : Int)]
    have e0 : (n : Int) - 1 = ((n - 1 : Nat) : Int) := by omega
    rw [e0]
  subst ev2
  refine ⟨_, _, rfl, rfl, .inl ⟨by show -(2 ^ 64 : Int) < (ds.length : Int); omega, by show (ds.length : Int) < 2 ^ 64; omega⟩, _, _, rfl, rfl, post _ _ ⟨congrArg V.int ?_, s1.trans s2⟩⟩
  obtain ⟨n, rfl⟩ : ∃ n', n = n' + 1 := ⟨n - 1, by omega⟩
  have e := q_succ (d := (ds.length : Int)) (v := (ns.length : Int)) n
  show q (ds.length : Int) (ns.length : Int) (n + 1) - (if decide (V.int ((n + 1 : Nat) : Int) = V.int 1) = true then (1 : Int) else 0) * (ns.length : Int) - (ds.length : Int) * p (ds.length : Int) (ns.length : Int) (n + 1 - 1) = _
  rw [e, Int.mul_add, Nat.add_sub_cancel]
  by_cases c : n = 0
  · rw [if_pos c, if_pos (decide_eq_true (by rw [c]; rfl)), Int.one_mul]
    omega
  · rw [if_neg c, if_neg (fun z => by have := V.int.inj (of_decide_eq_true z); omega), Int.zero_mul]
    omega

abbrev spLawDivisors : Sp := mkSp (fun n : Nat => [.int n]) (fun n _ => n ≤ 60) (fun n H v H' => ∃ D, v = .ref D ∧ Same H H' ∧ H' D = some (.lst ((divs n).map fun k => .int (k : Nat))))
theorem cl_lawDivisors (T : Top K mg) : Cl P w K mg base 1 "_law_divisors" spLawDivisors := by
  refine T.lawDivisors.cal scLawDivisors (fun _ => rfl) (fun f cdv A outer s H n E Q hr pre post => ?_)
  have hn : n ≤ 60 := pre
  have nd := scLawDivisors.nd
  refine ⟨_, (pss_one (ps_ret (pe_lc (own := [("_law_k", 1)]) (g := gName 1) (by rfl) nd (pi_range2 (by rfl) T.range (pa_cons pe_int (pa_cons (pe_op op_add (pv 0) pe_int) pa_nil))) (blkOk_by (N := ["_law_n", "_law_k"]) (sc := defScope sLawDivisors) (by decide +kernel)) (fun _ _ _ _ _ => (pg_name (i := 1) nd rfl (Or.inl rfl))) (fun _ _ _ _ _ => (pts_one (pt_cmpR op_eq (pe_op op_mul (pe_op op_fdiv (pv 0) (pv 1)) (pv 1)) (pv 0) (nomark _)))) (fun _ _ _ _ _ => (pv 1))))), ?_⟩
  refine ⟨_, rfl, _, _, rfl, rfl, _, _, rfl, ⟨by omega, by omega, by omega, by omega⟩, fun D nD => ?_⟩
  refine lcR (m := n) (fun i => decide (n % (i + 1) = 0)) (fun i => .int ((i + 1 : Nat) : Int)) (by omega) (line1000 (by omega)) nD (fun _ => rfl) (fun i H1 hi s1 R r => ?_) (fun i H1 hi hk s1 R r => ?_) (fun H1 s1 e => ?_)
  · have e1 : (1 : Int) + (i : Int) = ((i + 1 : Nat) : Int) := by omega
    have e2 : (n : Int) / ((i + 1 : Nat) : Int) = ((n / (i + 1) : Nat) : Int) := rfl
    have e3 : n / (i + 1) ≤ n := Nat.div_le_self _ _
    refine ⟨_, rfl, _, rfl, _, _, rfl, rfl, ⟨by omega, by omega⟩, _, rfl, _, _, rfl, rfl, .inr ⟨by omega, by omega⟩, _, rfl, rfl, _, rfl, ?_⟩
    have e4 : decide (V.int ((n : Int) / (1 + (i : Int)) * (1 + (i : Int))) = V.int (n : Int)) = decide (n % (i + 1) = 0) := by
      rw [e1, e2, ← Int.natCast_mul]
      have hdm := Nat.div_add_mod n (i + 1)
      have hc : n / (i + 1) * (i + 1) = (i + 1) * (n / (i + 1)) := Nat.mul_comm _ _
      refine decide_eq_decide.mpr ⟨fun z => ?_, fun z => congrArg V.int ?_⟩
      · have z' : ((n / (i + 1) * (i + 1) : Nat) : Int) = (n : Int) := V.int.inj z
        have z2 : n / (i + 1) * (i + 1) = n := by exact_mod_cast z'
        omega
      · have z2 : n / (i + 1) * (i + 1) = n := by omega
        rw [z2]
    rw [e4]
    exact r
  · refine ⟨_, rfl, ?_⟩
    rw [show (1 : Int) + (i : Int) = ((i + 1 : Nat) : Int) by omega]
    exact r _ (Same.refl _)
  · rw [divs_turns n (fun k => .int (k : Nat))] at e
    exact post _ _ ⟨D, rfl, s1, e⟩
end
end K64
end
section
set_option Elab.async false
set_option linter.all false
set_option maxRecDepth 100000
set_option maxHeartbeats 4000000
namespace K64
open PySem PySem.Spec PyProof.Rows L2 KM SS2
theorem lcL_none {val : Nat → V} (n : Nat) : lcL (fun _ => false) val n = [] := by
  unfold lcL
  rw [List.filter_eq_nil_iff.mpr (fun _ _ => Bool.false_ne_true)]
  rfl
theorem vI_get {ns : List Int} {i : Nat} {x : V} (h : (vI ns)[i]? = some x) : ∃ z : Int, ns[i]? = some z ∧ x = .int z := by
  unfold vI at h
  rw [List.getElem?_map] at h
  cases q : ns[i]? with
  | none =>
    rw [q] at h
    cases h
  | some z =>
    rw [q] at h
    exact ⟨z, rfl, (Option.some.inj h).symm⟩
/-- 0, then the values from 1 on -/
theorem zero_cons (f : Sq) (h : f 0 = 0) (n : Nat) : [V.int 0] ++ lcL (fun _ => true) (fun i => V.int (f (i + 1))) n = vI (firsts f (n + 1)) := by
  rw [sum_vals (fun i => f (i + 1))]
  unfold firsts vI
  rw [List.range_succ_eq_map, List.map_cons, List.map_cons, h]
  show V.int 0 :: _ = _
  simp only [List.map_map]
  rfl
theorem map_get {ks : List Nat} {i : Nat} {x : V} (h : (ks.map fun k => V.int (k : Nat))[i]? = some x) : ∃ k, ks[i]? = some k ∧ x = .int (k : Nat) := by
  rw [List.getElem?_map] at h
  cases q : ks[i]? with
  | none =>
    rw [q] at h
    cases h
  | some z =>
    rw [q] at h
    exact ⟨z, rfl, (Option.some.inj h).symm⟩
/-- over all of a list: the values of a function of the items -/
theorem over_all {α : Type} (ks : List α) (d : α) (f : α → V) : lcL (fun _ => true) (fun i => f (ks.getD i d)) ks.length = ks.map f := by
  rw [lcL_all]
  refine List.ext_getElem? fun i => ?_
  rw [List.getElem?_map, List.getElem?_map]
  by_cases h : i < ks.length
  · rw [List.getElem?_range h, List.getElem?_eq_getElem h]
    show some (f (ks.getD i d)) = some (f ks[i])
    rw [List.getD_eq_getElem?_getD, List.getElem?_eq_getElem h]
    rfl
  · rw [List.getElem?_eq_none (by rw [List.length_range]; omega), List.getElem?_eq_none (by omega)]
    rfl
section
variable {P : Program} {w : World} {K : PySem.W.Frag} {mg : Str → Option Value} {base : Heap}
abbrev spTrue3 (pre : A3 → Prop) : Sp := mkSp (fun a : A3 => [.str (sOf a.1), .str (sOf a.2.1), .int a.2.2]) (fun a _ => pre a) (fun _ H v H' => v = .bl true ∧ Same H H')
theorem cl_lawBagSum (T : Top K mg) : Cl P w K mg base 6 "_law_bag_sum" (spTrue3 fun a => LtP (a.1, a.2.1) ∧ a.2.2 ≤ 8) := by
  have G_count : Cl P w K mg base 5 "count" (sp3 okA fun a => p a.1.length a.2.1.length a.2.2) := cl_count T
  have G_countPrimes : Cl P w K mg base 4 "count_primes" (sp3 (fun a => okA a ∧ 1 ≤ a.2.2) fun a => q a.1.length a.2.1.length a.2.2) := cl_countPrimes T
  have G_lawDivisors : Cl P w K mg base 1 "_law_divisors" spLawDivisors := cl_lawDivisors T
  have G_lawIsInt : Cl P w K mg base 1 "_law_is_int" spLawIsInt := cl_lawIsInt T
  refine T.lawBagSum.cal scLawBagSum (fun _ => rfl) (fun f cdv A outer s H a E Q hr pre post => ?_)
  obtain ⟨ds, ns, n⟩ := a
  obtain ⟨hLt, hn⟩ := pre
  dsimp only at hLt hn post
  have hd8 : ds.length ≤ 8 := hLt.1.2
  have hn8 : ns.length ≤ 8 := hLt.2.2
  have nd := scLawBagSum.nd
  refine ⟨_, (pss_cons (ps_setLc (i := 3) (own := [("_law_k", 6)]) (g := gName 6) (by rfl) nd rfl rfl (sw_true rfl rfl rfl (by decide +kernel)) (pi_range1 (by rfl) T.range (pa_cons (pe_op op_add (pv 2) pe_int) pa_nil)) (blkOk_by (N := ["_law_letters_here", "_law_words", "_law_n", "_law_plans", "_law_primes", "_law_total", "_law_k", "_law_one", "_law_s"]) (sc := defScope sLawBagSum) (by decide +kernel)) (fun _ _ _ _ _ => (pg_name (i := 6) nd rfl (Or.inl rfl))) (fun _ _ _ _ _ => pts_nil) (fun _ _ _ _ _ => (pcl G_count hr (pa_cons (pv 0) (pa_cons (pv 1) (pa_cons (pv 6) pa_nil))))))
      (pss_cons (ps_set (i := 4) nd rfl (.inr rfl) (pe_op op_cat (pe_lst (pa_cons pe_int pa_nil)) (pe_lc (own := [("_law_k", 6)]) (g := gName 6) (by rfl) nd (pi_range2 (by rfl) T.range (pa_cons pe_int (pa_cons (pe_op op_add (pv 2) pe_int) pa_nil))) (blkOk_by (N := ["_law_letters_here", "_law_words", "_law_n", "_law_plans", "_law_primes", "_law_total", "_law_k", "_law_one", "_law_s"]) (sc := defScope sLawBagSum) (by decide +kernel)) (fun _ _ _ _ _ => (pg_name (i := 6) nd rfl (Or.inl rfl))) (fun _ _ _ _ _ => pts_nil) (fun _ _ _ _ _ => (pcl G_countPrimes hr (pa_cons (pv 0) (pa_cons (pv 1) (pa_cons (pv 6) pa_nil))))))))
      (pss_cons (ps_if (PW.pt (pw_or (pt_cmpR op_gt (pe_callB (r := rLenK K) call_lenK (by rfl) T.len (by decide +kernel) (pa_cons (pe_lc (own := [("_law_one", 7)]) (g := gName 7) (by rfl) nd (pi_list (pe_op op_cat (pv 3) (pv 4))) (blkOk_by (N := ["_law_letters_here", "_law_words", "_law_n", "_law_plans", "_law_primes", "_law_total", "_law_k", "_law_one", "_law_s"]) (sc := defScope sLawBagSum) (by decide +kernel)) (fun _ _ _ _ _ => (pg_name (i := 7) nd rfl (Or.inl rfl))) (fun _ _ _ _ _ => (pts_one (pt_not (pt_val (pcl G_lawIsInt hr (pa_cons (pv 7) pa_nil)))))) (fun _ _ _ _ _ => (pv 7))) pa_nil)) pe_int (nomark _)) (pw_or1 (pt_cmpR op_ne (pe_ix (r := rIxL K) ix_list (pv 3) pe_int (fun _ _ => rfl)) pe_int (nomark _))))) (pss_one (ps_ret pe_bl)) pss_nil)
      (pss_cons (ps_set (i := 5) nd rfl (.inl rfl) pe_int)
      (pss_cons (ps_for PassesOwn.never rfl (pi_range2 (by rfl) T.range (pa_cons pe_int (pa_cons (pe_op op_add (pv 2) pe_int) pa_nil))) (pg_name (i := 6) nd rfl (.inl rfl)) (pss_one (ps_set (i := 5) nd rfl (.inl rfl) (pe_op op_add (pv 5) (pe_op op_mulW (pe_ix (r := rIxL K) ix_list (pv 3) (pe_op op_sub (pv 2) (pv 6)) (fun _ _ => rfl)) (pe_callB (r := rSum K) (cr_sum rfl) (by rfl) T.sum (by decide +kernel) (pa_cons (pe_lc (own := [("_law_s", 8)]) (g := gName 8) (by rfl) nd (pi_list (pcl G_lawDivisors hr (pa_cons (pv 6) pa_nil))) (blkOk_by (N := ["_law_letters_here", "_law_words", "_law_n", "_law_plans", "_law_primes", "_law_total", "_law_k", "_law_one", "_law_s"]) (sc := defScope sLawBagSum) (by decide +kernel)) (fun _ _ _ _ _ => (pg_name (i := 8) nd rfl (Or.inl rfl))) (fun _ _ _ _ _ => pts_nil) (fun _ _ _ _ _ => (pe_op op_mul (pv 8) (pe_ix (r := rIxL K) ix_list (pv 4) (pv 8) (fun _ _ => rfl))))) pa_nil)))))))
      (pss_one (ps_ret (pe_cmpR op_eq (pv 5) (pe_op op_mul (pv 2) (pe_ix (r := rIxL K) ix_list (pv 3) (pv 2) (fun _ _ => rfl))) (nomark _))))))))), ?_⟩
  generalize hp0 : p (ds.length : Int) (ns.length : Int) = p0
  generalize hq0 : q (ds.length : Int) (ns.length : Int) = q0
  have hpE : ∀ k, p0 k = KM.E q0 k := fun k => by
    rw [← hp0, ← hq0]
    exact p_E k
  -- plans
  refine ⟨_, rfl, _, _, rfl, rfl, _, rfl, (by show -(2 ^ 62 : Int) ≤ (n : Int) + 1; omega), (by show (n : Int) + 1 < 2 ^ 62; omega), fun D nD => ?_⟩
  refine lcR (m := n + 1) (fun _ => true) (fun k => .int (p0 k)) (by show ((n : Int) + 1).toNat = n + 1; omega) (line1000 (by omega)) nD (fun _ => rfl) (fun k H1 hk s1 Q r => r) (fun k H1 hk _ s1 R r => ?_) (fun H1 s1 e1 => ?_)
  · refine ⟨_, rfl, _, rfl, _, rfl, (ds, ns, k), ?_, ⟨hLt, by show k ≤ 60; omega⟩, fun v H2 ⟨ev, s2⟩ => ?_⟩
    · show [V.str (sOf ds), V.str (sOf ns), V.int (0 + (k : Int))] = [V.str (sOf ds), V.str (sOf ns), V.int (k : Int)]
      rw [Int.zero_add]
    subst ev
    have := r H2 s2
    rw [← hp0] at this
    exact this
  rw [sum_vals] at e1
  -- primes
  refine ⟨(by show 1 ≤ sizeLine; decide), fun Z nZ => ?_⟩
  have sZ : Same H (upd H1 Z (.lst [.int 0])) := s1.trans (same_upd nZ)
  have eZ : (upd H1 Z (.lst [.int 0])) Z = some (.lst [.int 0]) := upd_same
  have e1Z : (upd H1 Z (.lst [.int 0])) D = some (.lst (vI (firsts p0 (n + 1)))) := by
    rw [upd_ne (ne_of_none e1 nZ)]
    exact e1
  refine ⟨_, rfl, _, _, rfl, rfl, _, _, rfl, ⟨by decide, by decide, (by show -(2 ^ 62 : Int) ≤ (n : Int) + 1; omega), (by show (n : Int) + 1 < 2 ^ 62; omega)⟩, fun D2 nD2 => ?_⟩
  refine lcR (m := n) (fun _ => true) (fun k => .int (q0 (k + 1))) (by show ((n : Int) + 1 - 1).toNat = n; omega) (line1000 (by omega)) nD2 (fun _ => rfl) (fun k H2 hk s2 Q r => r) (fun k H2 hk _ s2 R r => ?_) (fun H2 s2 e2 => ?_)
  · refine ⟨_, rfl, _, rfl, _, rfl, (ds, ns, k + 1), ?_, ⟨⟨hLt, by show k + 1 ≤ 60; omega⟩, by show 1 ≤ k + 1; omega⟩, fun v H3 ⟨ev, s3⟩ => ?_⟩
    · show [V.str (sOf ds), V.str (sOf ns), V.int (1 + (k : Int))] = [V.str (sOf ds), V.str (sOf ns), V.int ((k + 1 : Nat) : Int)]
      rw [show (1 : Int) + (k : Int) = ((k + 1 : Nat) : Int) by omega]
    subst ev
    have := r H3 s3
    rw [← hq0] at this
    exact this
  refine ⟨Z, D2, _, _, rfl, rfl, s2 _ _ eZ, e2, by have := lcL_len (fun _ => true) (fun k => V.int (q0 (k + 1))) n; show 1 + _ ≤ _; exact line1000 (by omega), fun Pr nPr => ?_⟩
  rw [zero_cons q0 (by rw [← hq0]; exact q_zero)]
  have s3 : Same H (upd H2 Pr (.lst (vI (firsts q0 (n + 1))))) := (sZ.trans s2).trans (same_upd nPr)
  have e3 : (upd H2 Pr (.lst (vI (firsts q0 (n + 1))))) Pr = some (.lst (vI (firsts q0 (n + 1)))) := upd_same
  have e1P : (upd H2 Pr (.lst (vI (firsts q0 (n + 1))))) D = some (.lst (vI (firsts p0 (n + 1)))) := by
    rw [upd_ne (ne_of_none (s2 _ _ e1Z) nPr)]
    exact s2 _ _ e1Z
  generalize upd H2 Pr (.lst (vI (firsts q0 (n + 1)))) = H3 at s3 e3 e1P
  -- all are ints
  refine ⟨_, rfl, _, rfl, D, Pr, _, _, rfl, rfl, e1P, e3, by rw [vI_len, vI_len, firsts_len, firsts_len]; exact line1000 (by omega), fun C nC => ?_⟩
  have sC : Same H3 (upd H3 C (.lst (vI (firsts p0 (n + 1)) ++ vI (firsts q0 (n + 1))))) := same_upd nC
  have eC : vI (firsts p0 (n + 1)) ++ vI (firsts q0 (n + 1)) = vI (firsts p0 (n + 1) ++ firsts q0 (n + 1)) := List.map_append.symm
  refine ⟨C, rfl, ⟨_, hereL upd_same⟩, fun D3 nD3 => ?_⟩
  refine lcS (xs := vI (firsts p0 (n + 1)) ++ vI (firsts q0 (n + 1))) (fun _ => false) (fun _ => .non) (by rw [List.length_append, vI_len, vI_len, firsts_len, firsts_len]; exact line1000 (by omega)) nD3 (hereL upd_same) (fun _ => rfl) (fun i x H4 hx s4 R r => ?_) (fun i x H4 hx hk s4 R r => nomatch hk) (fun H4 s4 e4 => ?_)
  · rw [eC] at hx
    obtain ⟨z, _, rfl⟩ := vI_get hx
    refine ⟨_, rfl, z, rfl, trivial, fun v H5 ⟨e5, e6⟩ => ?_⟩
    subst e5 e6
    exact ⟨true, rfl, r⟩
  rw [lcL_none] at e4
  have s5 : Same H H4 := (s3.trans sC).trans s4
  have d4 : H4 D = some (.lst (vI (firsts p0 (n + 1)))) := s4 _ _ (sC _ _ e1P)
  have q4 : H4 Pr = some (.lst (vI (firsts q0 (n + 1)))) := s4 _ _ (sC _ _ e3)
  refine ⟨_, _, rfl, .inl ⟨_, hereL e4, rfl⟩, _, _, rfl, rfl, _, rfl, iteF ?_⟩
  refine ⟨_, rfl, D, _, _, _, rfl, rfl, hereL d4, at_firsts (k := 0) (by omega), rfl, _, rfl, ?_⟩
  rw [show p0 0 = 1 by rw [← hp0]; rfl]
  refine iteNS rfl ?_
  -- total
  refine ⟨_, rfl, _, _, rfl, rfl, _, _, rfl, ⟨by decide, by decide, (by show -(2 ^ 62 : Int) ≤ (n : Int) + 1; omega), (by show (n : Int) + 1 < 2 ^ 62; omega)⟩, ?_⟩
  rw [show ((n : Int) + 1 - 1).toNat = n by omega]
  refine for_range (fun i σ H' => ∃ y, σ = [some (.str (sOf ds)), some (.str (sOf ns)), some (.int n), some (.ref D), some (.ref Pr), some (.int (sm (fun k => p0 (n - (k + 1)) * W q0 (k + 1)) i)), y, none, none] ∧ Same H4 H') ⟨_, rfl, Same.refl _⟩ (fun i σ H5 hi h => ?_) (fun σ H5 h => ?_)
  · obtain ⟨y, rfl, s6⟩ := h
    have ei : (1 : Int) + (i : Int) = ((i + 1 : Nat) : Int) := by omega
    refine ⟨_, rfl, _, rfl, _, rfl, _, rfl, _, _, rfl, rfl, D, _, _, _, rfl, rfl, hereL (s6 _ _ d4), at_firsts' (k := n - (i + 1)) (by omega) (by omega), _, rfl, i + 1, ?_, by omega, fun v H6 ⟨Dv, ev, s7, e7⟩ => ?_⟩
    · show [V.int (1 + (i : Int))] = [V.int ((i + 1 : Nat) : Int)]
      rw [ei]
    subst ev
    refine ⟨Dv, rfl, ⟨_, hereL e7⟩, fun D5 nD5 => ?_⟩
    refine lcS (xs := (divs (i + 1)).map fun k => .int (k : Nat)) (fun _ => true) (fun j => .int ((((divs (i + 1)).getD j 0 : Nat) : Int) * q0 ((divs (i + 1)).getD j 0))) (by have := divs_len (i + 1); rw [List.length_map]; exact line1000 (by omega)) nD5 (hereL e7) (fun _ => rfl) (fun j x H7 hx s8 R r => r) (fun j x H7 hx _ s8 R r => ?_) (fun H7 s8 e8 => ?_)
    · obtain ⟨k, hk, rfl⟩ := map_get hx
      obtain ⟨k1, k2, _⟩ := mem_divs.mp (List.mem_of_getElem? hk)
      refine ⟨_, rfl, _, rfl, _, rfl, Pr, _, _, _, rfl, rfl, hereL (s8 _ _ (s7 _ _ (s6 _ _ q4))), at_firsts (k := k) (by omega), _, _, rfl, rfl, .inl ⟨by omega, by omega⟩, ?_⟩
      have ek : (divs (i + 1)).getD j 0 = k := by
        rw [List.getD_eq_getElem?_getD, hk]
        rfl
      rw [ek] at r
      exact r _ (Same.refl _)
    rw [List.length_map, over_all (divs (i + 1)) 0 (fun k => V.int ((k : Int) * q0 k)), map_int] at e8
    have hb1 : (p0 (n - (i + 1))).natAbs < 2 ^ 2000 := by
      rw [← hp0]
      exact lt_pow (p_abs (by omega) (by omega) _ _ (by omega) (by omega) (by omega)) (by omega)
    have hb2 : (W q0 (i + 1)).natAbs < 2 ^ 2000 := by
      rw [← hq0]
      exact lt_pow (W_abs (by omega) (by omega) (by omega) (by omega) (by omega)) (by omega)
    have eW := W_divs q0 (Nat.succ_pos i)
    refine ⟨D5, _, rfl, hereL e8, _, _, rfl, rfl, ?_, _, _, rfl, rfl, some (.int (1 + (i : Int))), ?_, (s6.trans s7).trans s8⟩
    · rw [← eW]
      exact wide_mul hb1 hb2 (by decide) (by decide) (by decide)
    · dsimp only
      rw [← eW]
      rfl
  · obtain ⟨y, rfl, s6⟩ := h
    refine ⟨_, rfl, _, rfl, _, rfl, _, rfl, D, _, _, _, rfl, rfl, hereL (s6 _ _ d4), at_firsts (k := n) (by omega), _, _, rfl, rfl, .inl ⟨by omega, by omega⟩, rfl, post _ _ ⟨congrArg V.bl (decide_eq_true (congrArg V.int ?_)), s5.trans s6⟩⟩
    have e := E_rec q0 n
    rw [conv_sm, sm_head, W_zero, Int.zero_mul, Int.zero_add] at e
    rw [hpE n, e]
    refine sm_congr n fun k hk => ?_
    rw [hpE, Int.mul_comm]
end
end K64
end
section
set_option Elab.async false
set_option linter.all false
set_option maxRecDepth 100000
set_option maxHeartbeats 4000000
namespace K64
open PySem PySem.Spec PyProof.Rows L2 KM SS2
theorem cut_last2 (f : Sq) (n : Nat) : cutV (vI (firsts f (n + 3))) (some ((n : Int) + 1)) none = [.int (f (n + 1)), .int (f (n + 2))] := by
  unfold cutV
  rw [vI_len, firsts_len, HT.sIx_none, show (n : Int) + 1 = ((n + 1 : Nat) : Int) by omega, HT.sIx_nat, Nat.min_eq_left (by omega)]
  unfold vI firsts
  rw [List.range_succ, List.range_succ, List.map_append, List.map_append, List.map_append, List.map_append, List.append_assoc, List.drop_append_of_le_length (by rw [List.length_map, List.length_map, List.length_range]; omega), List.drop_eq_nil_of_le (by rw [List.length_map, List.length_map, List.length_range]; omega)]
  show List.take (n + 3 - (n + 1)) [V.int (f (n + 1)), .int (f (n + 2))] = _
  rw [show n + 3 - (n + 1) = 2 by omega]
  rfl
theorem q_one (d v : Int) : q d v 1 = v + 2 * d := by
  rw [q_succ, pw_one, p_zero, p_zero, if_pos rfl]
  omega
section
variable {P : Program} {w : World} {K : PySem.W.Frag} {mg : Str → Option Value} {base : Heap}
theorem cl_lawWith (T : Top K mg) : Cl P w K mg base 6 "_law_with" (spTrue3 fun a => LtP (a.1, a.2.1) ∧ a.2.2 ≤ 8) := by
  have G_count : Cl P w K mg base 5 "count" (sp3 okA fun a => p a.1.length a.2.1.length a.2.2) := cl_count T
  have G_countPrimes : Cl P w K mg base 4 "count_primes" (sp3 (fun a => okA a ∧ 1 ≤ a.2.2) fun a => q a.1.length a.2.1.length a.2.2) := cl_countPrimes T
  have G_countWith : Cl P w K mg base 4 "count_with" spCountWith := cl_countWith T
  have G_lawIsInt : Cl P w K mg base 1 "_law_is_int" spLawIsInt := cl_lawIsInt T
  have G_lawBags : Cl P w K mg base 1 "_law_bags" spLawBags := cl_lawBags T
  refine T.lawWith.cal scLawWith (fun _ => rfl) (fun f cdv A outer s H a E Q hr pre post => ?_)
  obtain ⟨ds, ns, n⟩ := a
  obtain ⟨hLt, hn⟩ := pre
  dsimp only at hLt hn post
  have hd8 : ds.length ≤ 8 := hLt.1.2
  have hn8 : ns.length ≤ 8 := hLt.2.2
  have nd := scLawWith.nd
  refine ⟨_, (pss_cons (ps_setLc (i := 3) (own := [("_law_k", 7)]) (g := gName 7) (by rfl) nd rfl rfl (sw_true rfl rfl rfl (by decide +kernel)) (pi_range1 (by rfl) T.range (pa_cons (pe_op op_add (pv 2) pe_int) pa_nil)) (blkOk_by (N := ["_law_letters_here", "_law_words", "_law_n", "_law_rows", "_law_primes", "_law_pairs", "_law_ones", "_law_k", "_law_one"]) (sc := defScope sLawWith) (by decide +kernel)) (fun _ _ _ _ _ => (pg_name (i := 7) nd rfl (Or.inl rfl))) (fun _ _ _ _ _ => pts_nil) (fun _ _ _ _ _ => (pcl G_countWith hr (pa_cons (pv 0) (pa_cons (pv 1) (pa_cons (pv 2) (pa_cons (pv 7) pa_nil)))))))
      (pss_cons (ps_if (PW.pt (pw_or (pt_cmpR op_gt (pe_callB (r := rLenK K) call_lenK (by rfl) T.len (by decide +kernel) (pa_cons (pe_lc (own := [("_law_one", 8)]) (g := gName 8) (by rfl) nd (pi_list (pv 3)) (blkOk_by (N := ["_law_letters_here", "_law_words", "_law_n", "_law_rows", "_law_primes", "_law_pairs", "_law_ones", "_law_k", "_law_one"]) (sc := defScope sLawWith) (by decide +kernel)) (fun _ _ _ _ _ => (pg_name (i := 8) nd rfl (Or.inl rfl))) (fun _ _ _ _ _ => (pts_one (pt_not (pt_val (pcl G_lawIsInt hr (pa_cons (pv 8) pa_nil)))))) (fun _ _ _ _ _ => (pv 8))) pa_nil)) pe_int (nomark _)) (pw_or1 (pt_cmpR op_ne (pe_callB (r := rSum K) (cr_sum rfl) (by rfl) T.sum (by decide +kernel) (pa_cons (pv 3) pa_nil)) (pcl G_count hr (pa_cons (pv 0) (pa_cons (pv 1) (pa_cons (pv 2) pa_nil)))) (nomark _))))) (pss_one (ps_ret pe_bl)) pss_nil)
      (pss_cons (ps_if (PW.pt (pw_or (pt_cmpR (op_neD hr.units) (pe_slice sl_list (pv 3) (po_some (pe_op op_add (pv 2) pe_int)) po_none) (pe_lst (pa_cons pe_int (pa_cons pe_int pa_nil))) (nomark _)) (pw_or (pt_cmpR op_ne (pe_ix (r := rIxL K) ix_list (pv 3) pe_int (fun _ _ => rfl)) (pe_callTy call_int1 (by rfl) T.int (by decide +kernel) (pa_cons (pe_cmpR op_eq (pv 2) pe_int (nomark _)) pa_nil)) (nomark _)) (pw_or1 (pt_cmpR op_ne (pcl G_countWith hr (pa_cons (pv 0) (pa_cons (pv 1) (pa_cons (pv 2) (pa_cons pe_int pa_nil))))) pe_int (nomark _)))))) (pss_one (ps_ret pe_bl)) pss_nil)
      (pss_cons (ps_if (pt_cmpR op_eq (pv 2) pe_int (nomark _)) (pss_one (ps_ret pe_bl)) pss_nil)
      (pss_cons (ps_set (i := 4) nd rfl (.inr rfl) (pe_op op_cat (pe_lst (pa_cons pe_int pa_nil)) (pe_lc (own := [("_law_k", 7)]) (g := gName 7) (by rfl) nd (pi_range2 (by rfl) T.range (pa_cons pe_int (pa_cons (pe_op op_add (pv 2) pe_int) pa_nil))) (blkOk_by (N := ["_law_letters_here", "_law_words", "_law_n", "_law_rows", "_law_primes", "_law_pairs", "_law_ones", "_law_k", "_law_one"]) (sc := defScope sLawWith) (by decide +kernel)) (fun _ _ _ _ _ => (pg_name (i := 7) nd rfl (Or.inl rfl))) (fun _ _ _ _ _ => pts_nil) (fun _ _ _ _ _ => (pcl G_countPrimes hr (pa_cons (pv 0) (pa_cons (pv 1) (pa_cons (pv 7) pa_nil))))))))
      (pss_cons (ps_set (i := 5) nd rfl (.inl rfl) (pe_callB (r := rSum K) (cr_sum rfl) (by rfl) T.sum (by decide +kernel) (pa_cons (pe_lc (own := [("_law_k", 7)]) (g := gName 7) (by rfl) nd (pi_range2 (by rfl) T.range (pa_cons pe_int (pa_cons (pe_op op_fdiv (pe_op op_add (pv 2) pe_int) pe_int) pa_nil))) (blkOk_by (N := ["_law_letters_here", "_law_words", "_law_n", "_law_rows", "_law_primes", "_law_pairs", "_law_ones", "_law_k", "_law_one"]) (sc := defScope sLawWith) (by decide +kernel)) (fun _ _ _ _ _ => (pg_name (i := 7) nd rfl (Or.inl rfl))) (fun _ _ _ _ _ => pts_nil) (fun _ _ _ _ _ => (pe_op op_mulW (pe_ix (r := rIxL K) ix_list (pv 4) (pv 7) (fun _ _ => rfl)) (pe_ix (r := rIxL K) ix_list (pv 4) (pe_op op_sub (pv 2) (pv 7)) (fun _ _ => rfl))))) pa_nil)))
      (pss_cons (ps_if (pt_cmpR op_eq (pe_op op_mul (pe_op op_fdiv (pv 2) pe_int) pe_int) (pv 2) (nomark _)) (pss_one (ps_set (i := 5) nd rfl (.inl rfl) (pe_op op_add (pv 5) (pcl G_lawBags hr (pa_cons (pcl G_countPrimes hr (pa_cons (pv 0) (pa_cons (pv 1) (pa_cons (pe_op op_fdiv (pv 2) pe_int) pa_nil)))) (pa_cons pe_int pa_nil)))))) pss_nil)
      (pss_cons (ps_set (i := 6) nd rfl (.inl rfl) (pe_op op_add (pe_callB (r := rLenK K) call_lenK (by rfl) T.len (by decide +kernel) (pa_cons (pv 1) pa_nil)) (pe_op op_mul pe_int (pe_callB (r := rLenK K) call_lenK (by rfl) T.len (by decide +kernel) (pa_cons (pv 0) pa_nil)))))
      (pss_cons (ps_if (PW.pt (pw_and (pt_cmpR op_gt (pv 2) pe_int (nomark _)) (pw_and1 (pt_cmpR op_ne (pe_ix (r := rIxL K) ix_list (pv 3) pe_int (fun _ _ => rfl)) (pv 5) (nomark _))))) (pss_one (ps_ret pe_bl)) pss_nil)
      (pss_one (ps_ret (pe_and (pe_cmpR op_eq (pe_ix (r := rIxL K) ix_list (pv 3) pe_int (fun _ _ => rfl)) (pcl G_countPrimes hr (pa_cons (pv 0) (pa_cons (pv 1) (pa_cons (pv 2) pa_nil)))) (nomark _)) (pe_one (pe_cmpR op_eq (pe_ix (r := rIxL K) ix_list (pv 3) (pv 2) (fun _ _ => rfl)) (pcl G_lawBags hr (pa_cons (pv 6) (pa_cons (pv 2) pa_nil))) (nomark _))))))))))))))), ?_⟩
  generalize hp0 : p (ds.length : Int) (ns.length : Int) = p0
  generalize hq0 : q (ds.length : Int) (ns.length : Int) = q0
  have hpE : ∀ k, p0 k = KM.E q0 k := fun k => by
    rw [← hp0, ← hq0]
    exact p_E k
  have hqa : ∀ k, 0 < k → k ≤ 8 → (q0 k).natAbs ≤ 2 ^ 300 := fun k h0 h8 => by
    rw [← hq0]
    exact Nat.le_trans (q_abs1 (by omega) (by omega) h0 (by omega) (by omega) (by omega)) (pow_mono (by omega))
  -- rows
  refine ⟨_, rfl, _, _, rfl, rfl, _, rfl, (by show -(2 ^ 62 : Int) ≤ (n : Int) + 3; omega), (by show (n : Int) + 3 < 2 ^ 62; omega), fun D nD => ?_⟩
  refine lcR (m := n + 3) (fun _ => true) (fun k => .int (TT q0 n n k)) (by show ((n : Int) + 3).toNat = n + 3; omega) (line1000 (by omega)) nD (fun _ => rfl) (fun k H1 hk s1 Q r => r) (fun k H1 hk _ s1 R r => ?_) (fun H1 s1 e1 => ?_)
  · refine ⟨_, rfl, _, rfl, _, rfl, _, rfl, (ds, ns, n, k), ?_, ⟨hLt, hn, by show k ≤ 60; omega⟩, fun v H2 ⟨ev, s2⟩ => ?_⟩
    · show [V.str (sOf ds), V.str (sOf ns), V.int (n : Int), V.int (0 + (k : Int))] = [V.str (sOf ds), V.str (sOf ns), V.int (n : Int), V.int (k : Int)]
      rw [Int.zero_add]
    subst ev
    have := r H2 s2
    rw [← hq0] at this
    exact this
  rw [sum_vals] at e1
  have e1 : H1 D = some (.lst (vI (firsts (TT q0 n n) (n + 3)))) := e1
  -- all are ints; the sum
  refine ⟨_, rfl, D, rfl, ⟨_, hereL e1⟩, fun D3 nD3 => ?_⟩
  refine lcS (xs := vI (firsts (TT q0 n n) (n + 3))) (fun _ => false) (fun _ => .non) (by rw [vI_len, firsts_len]; exact line1000 (by omega)) nD3 (hereL e1) (fun _ => rfl) (fun i x H4 hx s4 R r => ?_) (fun i x H4 hx hk s4 R r => nomatch hk) (fun H4 s4 e4 => ?_)
  · obtain ⟨z, _, rfl⟩ := vI_get hx
    refine ⟨_, rfl, z, rfl, trivial, fun v H5 ⟨e5, e6⟩ => ?_⟩
    subst e5 e6
    exact ⟨true, rfl, r⟩
  rw [lcL_none] at e4
  have s5 : Same H H4 := s1.trans s4
  have d4 := s4 _ _ e1
  refine ⟨_, _, rfl, .inl ⟨_, hereL e4, rfl⟩, _, _, rfl, rfl, _, rfl, iteF ?_⟩
  refine ⟨_, rfl, D, _, rfl, hereL d4, _, rfl, _, rfl, _, rfl, (ds, ns, n), rfl, ⟨hLt, by show n ≤ 60; omega⟩, fun v H6 ⟨ev, s6⟩ => ?_⟩
  subst ev
  have esum : (firsts (TT q0 n n) (n + 3)).sum = p (ds.length : Int) (ns.length : Int) n := by
    show ((List.range (n + 3)).map (TT q0 n n)).sum = _
    rw [sum_range, hp0, hpE n]
    exact TT_sum q0 n n (n + 2) (by omega)
  refine ⟨rfl, _, rfl, iteNS (congrArg V.int esum) ?_⟩
  have d6 := s6 _ _ d4
  -- beyond the size; none; 60
  refine ⟨_, rfl, _, rfl, _, _, rfl, rfl, _, rfl, D, _, rfl, hereL d6, fun D7 n7 => ?_⟩
  rw [cut_last2, TT_above q0 n n (n + 1) (by omega), TT_above q0 n n (n + 2) (by omega)]
  refine ⟨(by show 2 ≤ sizeLine; decide), fun D8 n8 => ?_⟩
  have e7 : (upd H6 D7 (.lst [.int 0, .int 0])) D7 = some (.lst [.int 0, .int 0]) := upd_same
  have s8 : Same H6 (upd (upd H6 D7 (.lst [.int 0, .int 0])) D8 (.lst [.int 0, .int 0])) := (same_upd n7).trans (same_upd n8)
  refine ⟨.list [.int 0, .int 0], .list [.int 0, .int 0], .lst (hereL (by rw [upd_ne (ne_of_none e7 n8)]; exact e7)) (.cons (.int 0) (.cons (.int 0) .nil)), .lst (hereL upd_same) (.cons (.int 0) (.cons (.int 0) .nil)), rfl, rfl, _, rfl, ?_⟩
  refine iteF ?_
  have d8 := s8 _ _ d6
  refine ⟨_, rfl, D, _, _, _, rfl, rfl, hereL d8, at_firsts (k := 0) (by omega), _, rfl, rfl, .inr ⟨_, rfl, rfl, _, rfl, ?_⟩⟩
  have e0 : V.int (TT q0 n n 0) = V.int (if decide (V.int (n : Int) = V.int 0) = true then 1 else 0) := by
    rw [TT_none]
    congr 1
    by_cases c : n = 0
    · rw [if_pos c, if_pos (decide_eq_true (by rw [c]; rfl))]
    · rw [if_neg c, if_neg (fun z => by have := V.int.inj (of_decide_eq_true z); omega)]
  refine iteNS e0 ?_
  refine ⟨_, rfl, _, rfl, _, rfl, (ds, ns, n, 60), rfl, ⟨hLt, hn, by show 60 ≤ 60; omega⟩, fun v H9 ⟨ev, s9⟩ => ?_⟩
  subst ev
  refine ⟨rfl, _, rfl, iteNS (congrArg V.int (TT_above _ n n 60 (by omega))) ?_⟩
  have d9 := s9 _ _ d8
  have sA : Same H H9 := ((s5.trans s6).trans s8).trans s9
  -- if n == 0
  refine ⟨_, rfl, rfl, _, rfl, ite2 (fun c => post _ _ ⟨rfl, sA⟩) (fun c => ?_)⟩
  have h0 : 0 < n := by
    by_cases z : n = 0
    · exact absurd (decide_eq_true (by rw [z]; rfl)) c
    · omega
  -- primes
  refine ⟨(by show 1 ≤ sizeLine; decide), fun Z nZ => ?_⟩
  have sZ : Same H9 (upd H9 Z (.lst [.int 0])) := same_upd nZ
  have eZ : (upd H9 Z (.lst [.int 0])) Z = some (.lst [.int 0]) := upd_same
  refine ⟨_, rfl, _, _, rfl, rfl, _, _, rfl, ⟨by decide, by decide, (by show -(2 ^ 62 : Int) ≤ (n : Int) + 1; omega), (by show (n : Int) + 1 < 2 ^ 62; omega)⟩, fun D2 nD2 => ?_⟩
  refine lcR (m := n) (fun _ => true) (fun k => .int (q0 (k + 1))) (by show ((n : Int) + 1 - 1).toNat = n; omega) (line1000 (by omega)) nD2 (fun _ => rfl) (fun k H2 hk s2 Q r => r) (fun k H2 hk _ s2 R r => ?_) (fun H2 s2 e2 => ?_)
  · refine ⟨_, rfl, _, rfl, _, rfl, (ds, ns, k + 1), ?_, ⟨⟨hLt, by show k + 1 ≤ 60; omega⟩, by show 1 ≤ k + 1; omega⟩, fun v H3 ⟨ev, s3⟩ => ?_⟩
    · show [V.str (sOf ds), V.str (sOf ns), V.int (1 + (k : Int))] = [V.str (sOf ds), V.str (sOf ns), V.int ((k + 1 : Nat) : Int)]
      rw [show (1 : Int) + (k : Int) = ((k + 1 : Nat) : Int) by omega]
    subst ev
    have := r H3 s3
    rw [← hq0] at this
    exact this
  refine ⟨Z, D2, _, _, rfl, rfl, s2 _ _ eZ, e2, by have := lcL_len (fun _ => true) (fun k => V.int (q0 (k + 1))) n; show 1 + _ ≤ _; exact line1000 (by omega), fun Pr nPr => ?_⟩
  rw [zero_cons q0 (by rw [← hq0]; exact q_zero)]
  have sB : Same H9 (upd H2 Pr (.lst (vI (firsts q0 (n + 1))))) := (sZ.trans s2).trans (same_upd nPr)
  have e3 : (upd H2 Pr (.lst (vI (firsts q0 (n + 1))))) Pr = some (.lst (vI (firsts q0 (n + 1)))) := upd_same
  generalize upd H2 Pr (.lst (vI (firsts q0 (n + 1)))) = H3 at sB e3
  have d3 := sB _ _ d9
  -- pairs
  refine ⟨_, rfl, _, _, rfl, rfl, _, _, rfl, rfl, ⟨by decide, by decide⟩, _, _, rfl, ⟨by decide, by decide, (by show -(2 ^ 62 : Int) ≤ ((n : Int) + 1) / 2; omega), (by show ((n : Int) + 1) / 2 < 2 ^ 62; omega)⟩, fun D4 nD4 => ?_⟩
  refine lcR (m := (n + 1) / 2 - 1) (fun _ => true) (fun k => .int (q0 (k + 1) * q0 (n - (k + 1)))) (by show (((n : Int) + 1) / 2 - 1).toNat = (n + 1) / 2 - 1; omega) (line1000 (by omega)) nD4 (fun _ => rfl) (fun k H2 hk s2 Q r => r) (fun k H2 hk _ s2 R r => ?_) (fun H2 s2 e2 => ?_)
  · exact ⟨_, rfl, _, rfl, Pr, _, _, _, rfl, rfl, hereL (s2 _ _ e3), at_firsts' (k := k + 1) (by omega) (by omega), _, rfl, _, rfl, _, rfl, _, _, rfl, rfl, Pr, _, _, _, rfl, rfl, hereL (s2 _ _ e3), at_firsts' (k := n - (k + 1)) (by omega) (by show (n : Int) - (1 + (k : Int)) = ((n - (k + 1) : Nat) : Int); omega), _, _, rfl, rfl,
      wide_mul (lt_pow (hqa (k + 1) (by omega) (by omega)) (show 300 < 301 by omega)) (lt_pow (hqa (n - (k + 1)) (by omega) (by omega)) (show 300 < 301 by omega)) (by decide) (by decide) (by decide), r _ (Same.refl _)⟩
  rw [sum_vals (fun k => q0 (k + 1) * q0 (n - (k + 1)))] at e2
  refine ⟨D4, _, rfl, hereL e2, ?_⟩
  rw [sum_range]
  have e2n : (n : Int) / 2 = ((n / 2 : Nat) : Int) := rfl
  -- an even size
  refine ⟨_, rfl, _, _, rfl, rfl, ⟨by decide, by decide⟩, _, _, rfl, rfl, .inr ⟨by decide, by decide⟩, _, rfl, rfl, _, rfl, ?_⟩
  refine ifS_join (fun σ H' => σ = [some (.str (sOf ds)), some (.str (sOf ns)), some (.int n), some (.ref D), some (.ref Pr), some (.int (sm (fun k => q0 (k + 1) * q0 (n - (k + 1))) ((n + 1) / 2 - 1) + (if n / 2 * 2 = n then mc (q0 (n / 2)) 2 else 0))), none, none, none] ∧ Same H2 H') (fun c2 N hN => ?_) (fun c2 N hN => ?_) (fun σ H' hG => ?_)
  · have c3 : (n : Int) / 2 * 2 = (n : Int) := V.int.inj (of_decide_eq_true c2)
    have c4 : n / 2 * 2 = n := by omega
    refine ⟨_, rfl, _, rfl, _, rfl, _, rfl, _, _, rfl, rfl, ⟨by decide, by decide⟩, (ds, ns, n / 2), rfl, ⟨⟨hLt, by show n / 2 ≤ 60; omega⟩, by show 1 ≤ n / 2; omega⟩, fun v H7 ⟨ev, s7⟩ => ?_⟩
    subst ev
    refine ⟨(q0 (n / 2), 2), ?_, ⟨hqa (n / 2) (by omega) (by omega), by show 2 ≤ 8; omega⟩, fun v H8 ⟨ev, e8⟩ => ?_⟩
    · rw [← hq0]
      rfl
    subst ev e8
    refine ⟨_, _, rfl, rfl, hN _ _ ⟨?_, s7⟩⟩
    rw [if_pos c4]
    rfl
  · have c4 : ¬ n / 2 * 2 = n := fun z => of_decide_eq_false c2 (congrArg V.int (by show (n : Int) / 2 * 2 = (n : Int); omega))
    refine hN _ _ ⟨?_, Same.refl _⟩
    rw [if_neg c4, Int.add_zero]
    rfl
  obtain ⟨rfl, s7⟩ := hG
  have dL := s7 _ _ (s2 _ _ d3)
  -- ones
  refine ⟨_, rfl, _, _, rfl, ⟨line1000 (by show ns.length ≤ 1000; omega), rfl⟩, _, rfl, _, _, rfl, ⟨line1000 (by show ds.length ≤ 1000; omega), rfl⟩, _, _, rfl, rfl, .inl ⟨by decide, by decide⟩, _, _, rfl, rfl, ?_⟩
  -- if n > 2 and rows[2] != pairs
  have fin : Same H H' := ((sA.trans sB).trans s2).trans s7
  have e1q : q0 1 = (ns.length : Int) + 2 * (ds.length : Int) := by
    rw [← hq0]
    exact q_one _ _
  have z1 : ∀ (m : Nat) (_ : Hp), TT q0 n n 1 = q (ds.length : Int) (ns.length : Int) n := fun _ _ => by
    rw [TT_one, if_pos ⟨h0, Nat.le_refl _⟩, ← hq0]
  have z2 : TT q0 n n n = mc ((ns.length : Int) + 2 * (ds.length : Int)) n := by
    obtain ⟨n, rfl⟩ : ∃ n', n = n' + 1 := ⟨n - 1, by omega⟩
    rw [TT_top, e1q]
  have zb : ((ns.length : Int) + 2 * (ds.length : Int)).natAbs ≤ 2 ^ 300 := Nat.le_trans (show ((ns.length : Int) + 2 * (ds.length : Int)).natAbs ≤ 2 ^ 5 by omega) (pow_mono (by omega))
  refine ⟨_, rfl, _, _, rfl, rfl, _, rfl, ite2 (fun c5 => ?_) (fun c5 => iteF ?_)⟩
  · have c6 : (2 : Int) < (n : Int) := of_decide_eq_true c5
    refine ⟨_, rfl, D, _, _, _, rfl, rfl, hereL dL, at_firsts (k := 2) (by omega), _, rfl, rfl, _, rfl, iteNS (congrArg V.int (pairs q0 (by omega) hn)) ?_⟩
    refine ⟨_, rfl, D, _, _, _, rfl, rfl, hereL dL, at_firsts (k := 1) (by omega), _, rfl, _, rfl, _, rfl, (ds, ns, n), rfl, ⟨⟨hLt, by show n ≤ 60; omega⟩, h0⟩, fun v H8 ⟨ev, s8⟩ => ?_⟩
    subst ev
    refine ⟨rfl, true, congrArg V.bl (decide_eq_true (congrArg V.int (z1 n H8))), iteT ?_⟩
    exact ⟨_, rfl, _, rfl, D, _, _, _, rfl, rfl, hereL (s8 _ _ dL), at_firsts (k := n) (by omega), _, rfl, _, rfl, ((ns.length : Int) + 2 * (ds.length : Int), n), rfl, ⟨zb, hn⟩, fun v H9 ⟨ev, e9⟩ => by
      subst ev e9
      exact ⟨rfl, post _ _ ⟨congrArg V.bl (decide_eq_true (congrArg V.int z2)), fin.trans s8⟩⟩⟩
  · refine ⟨_, rfl, D, _, _, _, rfl, rfl, hereL dL, at_firsts (k := 1) (by omega), _, rfl, _, rfl, _, rfl, (ds, ns, n), rfl, ⟨⟨hLt, by show n ≤ 60; omega⟩, h0⟩, fun v H8 ⟨ev, s8⟩ => ?_⟩
    subst ev
    refine ⟨rfl, true, congrArg V.bl (decide_eq_true (congrArg V.int (z1 n H8))), iteT ?_⟩
    exact ⟨_, rfl, _, rfl, D, _, _, _, rfl, rfl, hereL (s8 _ _ dL), at_firsts (k := n) (by omega), _, rfl, _, rfl, ((ns.length : Int) + 2 * (ds.length : Int), n), rfl, ⟨zb, hn⟩, fun v H9 ⟨ev, e9⟩ => by
      subst ev e9
      exact ⟨rfl, post _ _ ⟨congrArg V.bl (decide_eq_true (congrArg V.int z2)), fin.trans s8⟩⟩⟩
end
end K64
end
section
set_option Elab.async false
set_option linter.all false
set_option maxRecDepth 100000
set_option maxHeartbeats 4000000
namespace K64
open PySem PySem.Spec PyProof.Rows L2 KM SS2
/-! ### the law's own going: copies of one prime size -/
def gs (s : Nat) (x : Int) (f : Sq) (J m : Nat) : Int := sm (fun j => if j * s ≤ m then mc x j * f (m - j * s) else 0) (J + 1)
def gm (s : Nat) (x : Int) (f : Sq) (J m0 m : Nat) : Int := gs s x f J m + (if (J + 1) * s ≤ m ∧ m < (J + 1) * s + m0 then mc x (J + 1) * f (m - (J + 1) * s) else 0)
theorem gs_zero (s : Nat) (x : Int) (f : Sq) (m : Nat) : gs s x f 0 m = f m := by
  show (0 : Int) + (if 0 * s ≤ m then mc x 0 * f (m - 0 * s) else 0) = f m
  rw [if_pos (by omega), Nat.zero_mul, Nat.sub_zero, Int.zero_add]
  exact Int.one_mul _
theorem gs_succ (s : Nat) (x : Int) (f : Sq) (J m : Nat) : gs s x f (J + 1) m = gs s x f J m + (if (J + 1) * s ≤ m then mc x (J + 1) * f (m - (J + 1) * s) else 0) := rfl
theorem gm_zero (s : Nat) (x : Int) (f : Sq) (J m : Nat) : gm s x f J 0 m = gs s x f J m := by
  unfold gm
  rw [if_neg fun z => by omega, Int.add_zero]
theorem gm_end (s : Nat) (x : Int) (f : Sq) (J N m : Nat) (h : m ≤ N) : gm s x f J (N + 1 - (J + 1) * s) m = gs s x f (J + 1) m := by
  rw [gs_succ]
  unfold gm
  congr 1
  by_cases c : (J + 1) * s ≤ m
  · rw [if_pos ⟨c, by omega⟩, if_pos c]
  · rw [if_neg fun z => c z.1, if_neg c]
theorem gm_step (s : Nat) (x : Int) (f : Sq) (J m0 m : Nat) : gm s x f J (m0 + 1) m = if m = (J + 1) * s + m0 then gm s x f J m0 ((J + 1) * s + m0) + f m0 * mc x (J + 1) else gm s x f J m0 m := by
  by_cases c : m = (J + 1) * s + m0
  · subst c
    rw [if_pos rfl]
    unfold gm
    rw [if_pos ⟨by omega, by omega⟩, if_neg fun z => by omega, Nat.add_sub_cancel_left, Int.mul_comm (f m0)]
    omega
  · rw [if_neg c]
    unfold gm
    congr 1
    by_cases d : (J + 1) * s ≤ m ∧ m < (J + 1) * s + m0
    · rw [if_pos d, if_pos ⟨d.1, by omega⟩]
    · rw [if_neg d, if_neg fun z => by omega]
theorem gs_full {s : Nat} (hs : 0 < s) (x : Int) (f : Sq) {m N : Nat} (h : m ≤ N) : gs s x f (N / s) m = conv (fB s x) f m := by
  have out : ∀ j, m < j * s → (if j * s ≤ m then mc x j * f (m - j * s) else 0) = 0 := fun j hj => if_neg (by omega)
  have key : ∀ J, m / s ≤ J → gs s x f J m = gs s x f (m / s) m := fun J hJ => sm_cut (by omega) fun k h1 h2 => out k (by
    have h3 := Nat.lt_div_mul_add hs (a := m)
    have h4 : (m / s + 1) * s ≤ k * s := Nat.mul_le_mul_right s h1
    rw [Nat.add_mul, Nat.one_mul] at h4
    omega)
  rw [conv_fB s x hs f m, key (N / s) (Nat.div_le_div_right h)]
  exact (key m (Nat.div_le_self m s)).symm
theorem flat0 (k : Nat) : (List.replicate k [V.int 0]).flatten = vI (firsts (fun _ => 0) k) := by
  induction k with
  | zero => rfl
  | succ k ih =>
    rw [List.replicate_succ', List.flatten_append, ih, ← firsts_succ]
    unfold vI
    rw [List.map_append]
    rfl
theorem one_flat0 (q : Sq) (k : Nat) : [V.int 1] ++ vI (firsts (fun _ => 0) k) = vI (firsts (C q 0) (k + 1)) := by
  unfold firsts vI
  rw [List.range_succ_eq_map, List.map_cons, List.map_cons]
  show V.int 1 :: _ = _
  simp only [List.map_map]
  rfl
/-- waits by size -/
def wf (B : Sq) (k : Nat) : Int := if k = 0 then 0 else pw k B
/-- up to a place, then nothing -/
def upto (f : Sq) (s0 : Nat) : Sq := fun k => if k ≤ s0 then f k else 0
theorem upto_set (f : Sq) (s0 n : Nat) : firsts (fun k => if k = s0 + 1 then f (s0 + 1) else upto f s0 k) n = firsts (upto f (s0 + 1)) n := by
  refine firsts_congr fun k _ => ?_
  show (if k = s0 + 1 then f (s0 + 1) else if k ≤ s0 then f k else 0) = if k ≤ s0 + 1 then f k else 0
  by_cases c : k = s0 + 1
  · rw [if_pos c, if_pos (by omega), c]
  · rw [if_neg c]
    by_cases d : k ≤ s0
    · rw [if_pos d, if_pos (by omega)]
    · rw [if_neg d, if_neg (by omega)]
theorem upto_zero {f : Sq} (h : f 0 = 0) (n : Nat) : firsts (fun _ => 0) n = firsts (upto f 0) n := by
  refine firsts_congr fun k _ => ?_
  show (0 : Int) = if k ≤ 0 then f k else 0
  by_cases d : k ≤ 0
  · rw [if_pos d, show k = 0 by omega, h]
  · rw [if_neg d]
/-- the waits of all lesser divisors -/
theorem waits_rest {s : Nat} (hs : s + 1 ≤ 60) (B : Sq) : B s - ((lcL (fun i => decide ((s + 1) % (i + 1) = 0)) (fun i => V.int (wf B (i + 1))) s).map fun v => match v with | .int z => z | _ => 0).sum = wf B (s + 1) := by
  have h1 := moe (Nat.succ_pos s) hs B
  have h2 := divs_turns (s + 1) (fun k => V.int (pw k B))
  rw [lcL_succ, if_pos (decide_eq_true (Nat.mod_self _))] at h2
  have h3 : lcL (fun i => decide ((s + 1) % (i + 1) = 0)) (fun i => V.int (wf B (i + 1))) s = lcL (fun i => decide ((s + 1) % (i + 1) = 0)) (fun i => V.int (pw (i + 1) B)) s := by
    unfold lcL
    refine List.map_congr_left fun i _ => ?_
    show V.int (if i + 1 = 0 then 0 else pw (i + 1) B) = _
    rw [if_neg (Nat.succ_ne_zero i)]
  have h4 := congrArg (fun l : List V => (l.map fun v => match v with | .int z => z | _ => (0 : Int)).sum) h2
  simp only [List.map_append, List.sum_append, List.map_map] at h4
  rw [h3]
  have h5 : (List.map ((fun v => match v with | V.int z => z | _ => (0 : Int)) ∘ fun k => V.int (pw k B)) (divs (s + 1))).sum = B (s + 1 - 1) := h1
  rw [h5, Nat.add_sub_cancel] at h4
  have h6 : (List.map (fun v => match v with | V.int z => z | _ => (0 : Int)) [V.int (pw (s + 1) B)]).sum = pw (s + 1) B := by
    show pw (s + 1) B + 0 = _
    omega
  rw [h6] at h4
  show _ = if s + 1 = 0 then 0 else pw (s + 1) B
  rw [if_neg (Nat.succ_ne_zero s)]
  omega
theorem lcL_int (keep : Nat → Bool) (g : Nat → Int) (n : Nat) : lcL keep (fun i => V.int (g i)) n = vI ((lcL keep (fun i => V.int (g i)) n).map fun v => match v with | .int z => z | _ => 0) := by
  unfold lcL vI
  rw [List.map_map, List.map_map]
  rfl
end K64
end
section
set_option Elab.async false
set_option linter.all false
set_option maxRecDepth 100000
set_option maxHeartbeats 4000000
namespace K64
open PySem PySem.Spec PyProof.Rows L2 KM SS2
section
variable {P : Program} {w : World} {K : PySem.W.Frag} {mg : Str → Option Value} {base : Heap}
/-- between the sizes: plans, primes, waits -/
def MIn (H : Hp) (d v n b c e : Nat) (bs : List Int) (v' : Int) (B : Sq) (dep most : Int) (i : Nat) (s0 : Nat) (σ : L2.St) (H' : Hp) : Prop :=
  ∃ a y9 y10 y11 y12 y13, σ = [some (.int d), some (.int v), some (.int n), some (.ref b), some (.int dep), some (.int most), some (.ref a), some (.ref c), some (.ref e), y9, y10, y11, y12, y13, none] ∧ Same H H' ∧
    b ≠ c ∧ b ≠ e ∧ a ≠ c ∧ a ≠ e ∧ H' b = some (.lst (vI bs)) ∧ H' a = some (.lst (vI (firsts (C (q d v') s0) (i + 1)))) ∧
    H' c = some (.lst (vI (firsts (upto (q d v') s0) (i + 1)))) ∧ H' e = some (.lst (vI (firsts (upto (wf B) s0) (i + 1))))
theorem cl_lawModel (T : Top K mg) : Cl P w K mg base 1 "_law_model" spCounted := by
  refine T.lawModel.cal scLawModel (fun _ => rfl) (fun f cdv A outer s H a E Q hr pre post => ?_)
  obtain ⟨d, v, n⟩ := a
  obtain ⟨hd, hv, hn⟩ := pre
  dsimp only at hd hv hn post
  have nd := scLawModel.nd
  refine ⟨_, (pss_cons (ps_set (i := 3) nd rfl (.inl rfl) (pe_lst (pa_cons pe_int pa_nil)))
      (pss_cons (ps_for PassesOwn.never rfl (pi_range3 (by rfl) T.range (pa_cons (pv 2) (pa_cons (pe_un un_neg pe_int) (pa_cons (pe_un un_neg pe_int) pa_nil)))) (pg_name (i := 4) nd rfl (.inl rfl)) (pss_cons (ps_set (i := 5) nd rfl (.inl rfl) (pe_op op_sub (pv 2) (pv 4)))
      (pss_cons (ps_set (i := 6) nd rfl (.inl rfl) (pe_op op_cat (pe_lst (pa_cons pe_int pa_nil)) (pe_op op_rep (pe_lst (pa_cons pe_int pa_nil)) (pv 5))))
      (pss_cons (ps_set (i := 7) nd rfl (.inl rfl) (pe_op op_rep (pe_lst (pa_cons pe_int pa_nil)) (pe_op op_add (pv 5) pe_int)))
      (pss_cons (ps_set (i := 8) nd rfl (.inr rfl) (pe_op op_rep (pe_lst (pa_cons pe_int pa_nil)) (pe_op op_add (pv 5) pe_int)))
      (pss_cons (ps_for PassesOwn.never rfl (pi_range2 (by rfl) T.range (pa_cons pe_int (pa_cons (pe_op op_add (pv 5) pe_int) pa_nil))) (pg_name (i := 9) nd rfl (.inr rfl)) (pss_cons (ps_asg (pe_op op_sub (pe_ix (r := rIxL K) ix_list (pv 3) (pe_op op_sub (pv 9) pe_int) (fun _ _ => rfl)) (pe_callB (r := rSum K) (cr_sum rfl) (by rfl) T.sum (by decide +kernel) (pa_cons (pe_lc (own := [("_law_k", 14)]) (g := gName 14) (by rfl) nd (pi_range2 (by rfl) T.range (pa_cons pe_int (pa_cons (pv 9) pa_nil))) (blkOk_by (N := ["_law_d", "_law_v", "_law_n", "_law_bodies", "_law_depth", "_law_most", "_law_plans", "_law_primes", "_law_waits_here", "_law_s", "_law_grown", "_law_ways", "_law_j", "_law_m", "_law_k"]) (sc := defScope sLawModel) (by decide +kernel)) (fun _ _ _ _ _ => (pg_name (i := 14) nd rfl (Or.inl rfl))) (fun _ _ _ _ _ => (pts_one (pt_cmpR op_eq (pe_op op_mul (pe_op op_fdiv (pv 9) (pv 14)) (pv 14)) (pv 9) (nomark _)))) (fun _ _ _ _ _ => (pe_ix (r := rIxL K) ix_list (pv 8) (pv 14) (fun _ _ => rfl)))) pa_nil))) (pg_sub (pv 8) (pv 9) set_list))
      (pss_cons (ps_asg (pe_op op_add (pe_op op_mul (pv 0) (pe_op op_add (pe_ix (r := rIxL K) ix_list (pv 6) (pe_op op_sub (pv 9) pe_int) (fun _ _ => rfl)) (pe_ix (r := rIxL K) ix_list (pv 8) (pv 9) (fun _ _ => rfl)))) (pe_op op_mul (pe_callTy call_int1 (by rfl) T.int (by decide +kernel) (pa_cons (pe_cmpR op_eq (pv 9) pe_int (nomark _)) pa_nil)) (pe_op op_add (pv 1) (pv 4)))) (pg_sub (pv 7) (pv 9) set_list))
      (pss_cons (ps_set (i := 10) nd rfl (.inl rfl) (pe_callTy (r := rListOf K) call_listOf (by rfl) T.list (by decide +kernel) (pa_cons (pv 6) pa_nil)))
      (pss_cons (ps_set (i := 11) nd rfl (.inl rfl) pe_int)
      (pss_cons (ps_for PassesOwn.never rfl (pi_range2 (by rfl) T.range (pa_cons pe_int (pa_cons (pe_op op_add (pe_op op_fdiv (pv 5) (pv 9)) pe_int) pa_nil))) (pg_name (i := 12) nd rfl (.inl rfl)) (pss_cons (ps_set (i := 11) nd rfl (.inl rfl) (pe_op op_fdiv (pe_op op_mulW (pv 11) (pe_op op_sub (pe_op op_add (pe_ix (r := rIxL K) ix_list (pv 7) (pv 9) (fun _ _ => rfl)) (pv 12)) pe_int)) (pv 12)))
      (pss_one (ps_for PassesOwn.never rfl (pi_range2 (by rfl) T.range (pa_cons (pe_op op_mul (pv 12) (pv 9)) (pa_cons (pe_op op_add (pv 5) pe_int) pa_nil))) (pg_name (i := 13) nd rfl (.inl rfl)) (pss_one (ps_asg (pe_op op_add (pe_ix (r := rIxL K) ix_list (pv 10) (pv 13) (fun _ _ => rfl)) (pe_op op_mulW (pe_ix (r := rIxL K) ix_list (pv 6) (pe_op op_sub (pv 13) (pe_op op_mul (pv 12) (pv 9))) (fun _ _ => rfl)) (pv 11))) (pg_sub (pv 10) (pv 13) set_list)))))))
      (pss_one (ps_set (i := 6) nd rfl (.inl rfl) (pv 10)))))))))
      (pss_one (ps_set (i := 3) nd rfl (.inl rfl) (pv 6)))))))))
      (pss_one (ps_ret (pe_tup (pa_cons (pv 6) (pa_cons (pv 7) pa_nil))))))), ?_⟩
  refine ⟨by decide, fun b0 nb0 => ?_⟩
  refine ⟨_, rfl, 1, rfl, 1, rfl, (n : Int), -1, -1, n + 1, rfl, ⟨by decide, by decide, PySem.W.small_down (by omega) (by omega) (by omega) (by omega), by
    rw [PySem.W.rangeSize_downNat (n : Int) (-1)]
    omega⟩, ?_⟩
  refine for_rangeC (fun i σ H1 => ∃ b y4 y5 y6 y7 y8 y9 y10 y11 y12 y13, σ = [some (.int d), some (.int v), some (.int n), some (.ref b), y4, y5, y6, y7, y8, y9, y10, y11, y12, y13, none] ∧ Same H H1 ∧
    H1 b = some (.lst (vI (upTo (p d ((v : Int) + n - i + 1)) i))) ∧ (0 < i → ∃ c, y6 = some (.ref b) ∧ y7 = some (.ref c) ∧ H1 c = some (.lst (vI (upTo (q d ((v : Int) + n - i + 1)) i)))))
    ⟨b0, _, _, _, _, _, _, _, _, _, _, rfl, same_upd nb0, upd_same, fun z => absurd z (Nat.lt_irrefl 0)⟩ (fun i σ H1 hi hP => ?_) (fun σ H1 hP => ?_)
  · obtain ⟨b, y4, y5, y6, y7, y8, y9, y10, y11, y12, y13, rfl, s1, eb, _⟩ := hP
    generalize hv' : (v : Int) + n - i = v' at eb
    have hv0 : (v : Int) + ((n : Int) + (i : Nat) * -1) = v' := by omega
    have hvl : 0 ≤ v' ∧ v' + i ≤ 68 := by omega
    have hin : i ≤ n := by omega
    have em : (n : Int) - ((n : Int) + (i : Nat) * -1) = (i : Int) := by omega
    -- most
    refine ⟨_, rfl, _, rfl, _, _, rfl, rfl, ?_⟩
    -- plans
    refine ⟨by decide, fun l1 n1 => ⟨by decide, fun l2 n2 => ⟨_, rfl, l2, _, _, rfl, rfl, upd_same, by omega, by omega, (by rw [em]; show 1 * (i : Int).toNat ≤ sizeLine; exact line1000 (by omega)), fun l3 n3 => ?_⟩⟩⟩
    rw [em]
    rw [show ((i : Int)).toNat = i from rfl, flat0]
    have e1 : (upd H1 l1 (.lst [.int 1])) l1 = some (.lst [.int 1]) := upd_same
    have e12 : (upd (upd H1 l1 (.lst [.int 1])) l2 (.lst [.int 0])) l1 = some (.lst [.int 1]) := by
      rw [upd_ne (ne_of_none e1 n2)]
      exact e1
    have e13 : (upd (upd (upd H1 l1 (.lst [.int 1])) l2 (.lst [.int 0])) l3 (.lst (vI (firsts (fun _ => 0) i)))) l1 = some (.lst [.int 1]) := by
      rw [upd_ne (ne_of_none e12 n3)]
      exact e12
    have sm3 : Same H1 (upd (upd (upd H1 l1 (.lst [.int 1])) l2 (.lst [.int 0])) l3 (.lst (vI (firsts (fun _ => 0) i)))) := ((same_upd n1).trans (same_upd n2)).trans (same_upd n3)
    have e33 : (upd (upd (upd H1 l1 (.lst [.int 1])) l2 (.lst [.int 0])) l3 (.lst (vI (firsts (fun _ => 0) i)))) l3 = some (.lst (vI (firsts (fun _ => 0) i))) := upd_same
    generalize upd (upd (upd H1 l1 (.lst [.int 1])) l2 (.lst [.int 0])) l3 (.lst (vI (firsts (fun _ => 0) i))) = H2 at e13 sm3 e33
    refine ⟨l1, l3, _, _, rfl, rfl, e13, e33, (by rw [vI_len, firsts_len]; show 1 + i ≤ sizeLine; exact line1000 (by omega)), fun a na => ?_⟩
    rw [one_flat0 (q d v')]
    have ea : (upd H2 a (.lst (vI (firsts (C (q d v') 0) (i + 1))))) a = some (.lst (vI (firsts (C (q d v') 0) (i + 1)))) := upd_same
    have sa : Same H1 (upd H2 a (.lst (vI (firsts (C (q d v') 0) (i + 1))))) := sm3.trans (same_upd na)
    generalize upd H2 a (.lst (vI (firsts (C (q d v') 0) (i + 1)))) = H3 at ea sa
    -- primes
    refine ⟨by decide, fun l4 n4 => ⟨_, rfl, _, _, rfl, rfl, l4, _, _, rfl, rfl, upd_same, by omega, by omega, (by rw [em]; show 1 * ((i : Int) + 1).toNat ≤ sizeLine; exact line1000 (by omega)), fun c nc => ?_⟩⟩
    rw [em, show ((i : Int) + 1).toNat = i + 1 by omega, flat0, upto_zero (f := q d v') q_zero]
    have sc : Same H3 (upd (upd H3 l4 (.lst [.int 0])) c (.lst (vI (firsts (upto (q d v') 0) (i + 1))))) := (same_upd n4).trans (same_upd nc)
    have hac : a ≠ c := ne_of_none (o := .lst (vI (firsts (C (q d v') 0) (i + 1)))) ((same_upd n4) _ _ ea) nc
    have hbc : b ≠ c := ne_of_none ((same_upd n4) _ _ (sa _ _ eb)) nc
    have ec : (upd (upd H3 l4 (.lst [.int 0])) c (.lst (vI (firsts (upto (q d v') 0) (i + 1))))) c = some (.lst (vI (firsts (upto (q d v') 0) (i + 1)))) := upd_same
    generalize upd (upd H3 l4 (.lst [.int 0])) c (.lst (vI (firsts (upto (q d v') 0) (i + 1)))) = H4 at sc ec
    -- waits
    refine ⟨by decide, fun l5 n5 => ⟨_, rfl, _, _, rfl, rfl, l5, _, _, rfl, rfl, upd_same, by omega, by omega, (by rw [em]; show 1 * ((i : Int) + 1).toNat ≤ sizeLine; exact line1000 (by omega)), fun e ne => ?_⟩⟩
    rw [em, show ((i : Int) + 1).toNat = i + 1 by omega, flat0, upto_zero (f := wf (p d (v' + 1))) rfl]
    have se : Same H4 (upd (upd H4 l5 (.lst [.int 0])) e (.lst (vI (firsts (upto (wf (p d (v' + 1))) 0) (i + 1))))) := (same_upd n5).trans (same_upd ne)
    have hae : a ≠ e := ne_of_none ((same_upd n5) _ _ (sc _ _ ea)) ne
    have hbe : b ≠ e := ne_of_none ((same_upd n5) _ _ (sc _ _ (sa _ _ eb))) ne
    have hce : c ≠ e := ne_of_none ((same_upd n5) _ _ ec) ne
    have ee : (upd (upd H4 l5 (.lst [.int 0])) e (.lst (vI (firsts (upto (wf (p d (v' + 1))) 0) (i + 1))))) e = some (.lst (vI (firsts (upto (wf (p d (v' + 1))) 0) (i + 1)))) := upd_same
    have sH : Same H H3 := s1.trans sa
    have hcH : H c = none := ((sH.trans (same_upd n4)).free nc)
    have heH : H e = none := (((sH.trans sc).trans (same_upd n5)).free ne)
    generalize upd (upd H4 l5 (.lst [.int 0])) e (.lst (vI (firsts (upto (wf (p d (v' + 1))) 0) (i + 1)))) = H5 at se ee
    have sH5 : Same H H5 := (sH.trans sc).trans se
    -- the sizes
    refine ⟨_, rfl, _, _, rfl, rfl, _, _, rfl, ⟨by decide, by decide, (by rw [em]; omega), (by rw [em]; omega)⟩, ?_⟩
    rw [em, show ((i : Int) + 1 - 1).toNat = i by omega]
    refine for_range (fun s0 σ H6 => MIn H d v n b c e (upTo (p d (v' + 1)) i) v' (p d (v' + 1)) ((n : Int) + (i : Nat) * -1) ((n : Int) - ((n : Int) + (i : Nat) * -1)) i s0 σ H6)
      ⟨a, _, _, _, _, _, rfl, sH5, hbc, hbe, hac, hae, se _ _ (sc _ _ (sa _ _ eb)), se _ _ (sc _ _ ea), se _ _ ec, ee⟩ (fun s0 σ H6 hs0 hM => ?_) (fun σ H6 hM => ?_)
    · -- one size
      obtain ⟨a, y9, y10, y11, y12, y13, rfl, s6, hbc, hbe, hac, hae, fb, fa, fc, fe⟩ := hM
      have es1 : (1 : Int) + (s0 : Int) = ((s0 + 1 : Nat) : Int) := by omega
      have hs60 : s0 + 1 ≤ 60 := by omega
      -- waits[s] = bodies[s - 1] - sum(..)
      refine ⟨_, rfl, _, rfl, _, _, rfl, rfl, b, _, _, _, rfl, rfl, hereL fb, at_firsts' (k := s0) (by omega) (by omega), ?_⟩
      refine ⟨_, rfl, _, _, rfl, ⟨by decide, by decide, by omega, by omega⟩, fun D nD => ?_⟩
      refine lcR (m := s0) (fun k => decide ((s0 + 1) % (k + 1) = 0)) (fun k => .int (wf (p d (v' + 1)) (k + 1))) (by omega) (line1000 (by omega)) nD (fun _ => rfl) (fun k H7 hk s7 R r => ?_) (fun k H7 hk hkk s7 R r => ?_) (fun H7 s7 e7 => ?_)
      · have ek1 : (1 : Int) + (k : Int) = ((k + 1 : Nat) : Int) := by omega
        have e2 : ((s0 + 1 : Nat) : Int) / ((k + 1 : Nat) : Int) = (((s0 + 1) / (k + 1) : Nat) : Int) := rfl
        have e3 : (s0 + 1) / (k + 1) ≤ s0 + 1 := Nat.div_le_self _ _
        refine ⟨_, rfl, _, rfl, _, _, rfl, rfl, ⟨by omega, by omega⟩, _, rfl, _, _, rfl, rfl, .inr ⟨by omega, by omega⟩, _, rfl, rfl, _, rfl, ?_⟩
        have e4 : decide (V.int ((1 + (s0 : Int)) / (1 + (k : Int)) * (1 + (k : Int))) = V.int (1 + (s0 : Int))) = decide ((s0 + 1) % (k + 1) = 0) := by
          rw [ek1, es1, e2, ← Int.natCast_mul]
          have hdm := Nat.div_add_mod (s0 + 1) (k + 1)
          have hc : (s0 + 1) / (k + 1) * (k + 1) = (k + 1) * ((s0 + 1) / (k + 1)) := Nat.mul_comm _ _
          refine decide_eq_decide.mpr ⟨fun z => ?_, fun z => congrArg V.int ?_⟩
          · have z' : (((s0 + 1) / (k + 1) * (k + 1) : Nat) : Int) = ((s0 + 1 : Nat) : Int) := V.int.inj z
            have z2 : (s0 + 1) / (k + 1) * (k + 1) = s0 + 1 := by exact_mod_cast z'
            omega
          · have z2 : (s0 + 1) / (k + 1) * (k + 1) = s0 + 1 := by omega
            rw [z2]
        rw [e4]
        exact r
      · refine ⟨_, rfl, _, rfl, e, _, _, _, rfl, rfl, s7.seq (hereL fe), at_firsts' (k := k + 1) (by omega) (by omega), ?_⟩
        rw [show upto (wf (p d (v' + 1))) s0 (k + 1) = wf (p d (v' + 1)) (k + 1) from if_pos (by omega)]
        exact r _ (Same.refl _)
      rw [lcL_int] at e7
      have ew := waits_rest hs60 (p d (v' + 1))
      refine ⟨D, _, rfl, hereL e7, _, _, rfl, rfl, _, rfl, _, rfl, e, _, _, s0 + 1, rfl, rfl, s7 _ _ fe, (by rw [es1, vI_len, firsts_len]; exact ixN_nat (by omega)), ?_⟩
      dsimp only
      rw [ew, firsts_set (by omega), upto_set]
      generalize hH8 : upd H7 e (.lst (vI (firsts (upto (wf (p d (v' + 1))) (s0 + 1)) (i + 1)))) = H8
      have gb : H8 b = some (.lst (vI (upTo (p d (v' + 1)) i))) := by
        rw [← hH8, upd_ne hbe]
        exact s7 _ _ fb
      have ga : H8 a = some (.lst (vI (firsts (C (q d v') s0) (i + 1)))) := by
        rw [← hH8, upd_ne hae]
        exact s7 _ _ fa
      have gc : H8 c = some (.lst (vI (firsts (upto (q d v') s0) (i + 1)))) := by
        rw [← hH8, upd_ne hce]
        exact s7 _ _ fc
      have ge : H8 e = some (.lst (vI (firsts (upto (wf (p d (v' + 1))) (s0 + 1)) (i + 1)))) := by
        rw [← hH8]
        exact upd_same
      have s8 : Same H H8 := by
        rw [← hH8]
        exact same_upd_at (s6.trans s7) heH
      clear hH8
      -- primes[s] = ..
      refine ⟨_, rfl, _, rfl, _, rfl, _, _, rfl, rfl, a, _, _, _, rfl, rfl, hereL ga, at_firsts' (k := s0) (by omega) (by omega), _, rfl, _, rfl, e, _, _, _, rfl, rfl, hereL ge, at_firsts' (k := s0 + 1) (by omega) es1, _, _, rfl, rfl, _, _, rfl, rfl, .inl ⟨by omega, by omega⟩, _, rfl, rfl, .inr ⟨_, rfl, _, rfl, _, rfl, _, _, rfl, rfl, _, _, rfl, rfl, .inl ⟨by split <;> decide, by split <;> decide⟩, _, _, rfl, rfl, ?_⟩⟩
      refine ⟨_, rfl, _, rfl, c, _, _, s0 + 1, rfl, rfl, gc, (by rw [es1, vI_len, firsts_len]; exact ixN_nat (by omega)), ?_⟩
      have eq1 : (d : Int) * (C (q d v') s0 s0 + upto (wf (p d (v' + 1))) (s0 + 1) (s0 + 1)) + (if decide (V.int (1 + (s0 : Int)) = V.int 1) = true then (1 : Int) else 0) * ((v : Int) + ((n : Int) + (i : Nat) * -1)) = q d v' (s0 + 1) := by
        rw [q_succ, hv0, show upto (wf (p d (v' + 1))) (s0 + 1) (s0 + 1) = pw (s0 + 1) (p d (v' + 1)) from (if_pos (Nat.le_refl _)).trans (if_neg (Nat.succ_ne_zero s0)), show C (q d v') s0 s0 = p d v' s0 from (p_E s0).symm]
        by_cases z : s0 = 0
        · rw [if_pos z, if_pos (decide_eq_true (by rw [z]; rfl)), Int.one_mul]
          omega
        · rw [if_neg z, if_neg (fun y => by have := V.int.inj (of_decide_eq_true y); omega), Int.zero_mul]
          omega
      dsimp only
      rw [eq1, firsts_set (by omega), upto_set]
      generalize hH9 : upd H8 c (.lst (vI (firsts (upto (q d v') (s0 + 1)) (i + 1)))) = H9
      have kb : H9 b = some (.lst (vI (upTo (p d (v' + 1)) i))) := by
        rw [← hH9, upd_ne hbc]
        exact gb
      have ka : H9 a = some (.lst (vI (firsts (C (q d v') s0) (i + 1)))) := by
        rw [← hH9, upd_ne hac]
        exact ga
      have kc : H9 c = some (.lst (vI (firsts (upto (q d v') (s0 + 1)) (i + 1)))) := by
        rw [← hH9]
        exact upd_same
      have ke : H9 e = some (.lst (vI (firsts (upto (wf (p d (v' + 1))) (s0 + 1)) (i + 1)))) := by
        rw [← hH9, upd_ne hce.symm]
        exact ge
      have s9 : Same H H9 := by
        rw [← hH9]
        exact same_upd_at s8 hcH
      clear hH9
      -- grown = list(plans); ways = 1
      refine ⟨_, rfl, a, _, rfl, .inl (hereL ka), fun g ng => ?_⟩
      have hgb : b ≠ g := ne_of_none kb ng
      have hga : a ≠ g := ne_of_none ka ng
      have hgc : c ≠ g := ne_of_none kc ng
      have hge : e ≠ g := ne_of_none ke ng
      have hgH : H g = none := s9.free ng
      have hx : (q d v' (s0 + 1)).natAbs ≤ 2 ^ (31 * (s0 + 1)) := q_abs1 (by omega) (by omega) (by omega) (by omega) (by omega) (by omega)
      have hqs : ∀ k, 0 < k → k ≤ s0 → (q d v' k).natAbs ≤ 2 ^ (31 * k) := fun k h1 h2 => q_abs1 (by omega) (by omega) h1 (by omega) (by omega) (by omega)
      generalize hxx : q d v' (s0 + 1) = x at hx
      have ediv : (i : Int) / ((s0 + 1 : Nat) : Int) = ((i / (s0 + 1) : Nat) : Int) := rfl
      have hdl : i / (s0 + 1) ≤ i := Nat.div_le_self _ _
      obtain ⟨J, hJ⟩ : ∃ J, i / (s0 + 1) = J := ⟨_, rfl⟩
      rw [hJ] at ediv hdl
      have hJs : J * (s0 + 1) ≤ i := by
        rw [← hJ]
        exact Nat.div_mul_le_self i (s0 + 1)
      refine ⟨_, rfl, _, rfl, _, _, rfl, rfl, ⟨by omega, by omega⟩, _, _, rfl, rfl, _, _, rfl, ⟨by decide, by decide, (by rw [em, es1, ediv]; omega), (by rw [em, es1, ediv]; omega)⟩, ?_⟩
      refine forR (m := J) (by rw [em, es1, ediv]; omega) (fun j0 σ H' => ∃ y12 y13, σ = [some (.int d), some (.int v), some (.int n), some (.ref b), some (.int ((n : Int) + (i : Nat) * -1)), some (.int ((n : Int) - ((n : Int) + (i : Nat) * -1))), some (.ref a), some (.ref c), some (.ref e), some (.int (1 + (s0 : Int))), some (.ref g), some (.int (mc x j0)), y12, y13, none] ∧
        But g H9 H' ∧ H' g = some (.lst (vI (firsts (gs (s0 + 1) x (C (q d v') s0) j0) (i + 1))))) ⟨_, _, rfl, sameBut (same_upd ng), ?_⟩ (fun j0 σ HA hj0 hP => ?_) (fun σ HA hP => ?_)
      · rw [upd_same]
        congr 3
        exact firsts_congr fun k _ => (gs_zero _ _ _ k).symm
      · -- one copy more
        obtain ⟨y12, y13, rfl, bA, eg⟩ := hP
        have ej1 : (1 : Int) + (j0 : Int) = ((j0 + 1 : Nat) : Int) := by omega
        have hjs : (j0 + 1) * (s0 + 1) ≤ i := Nat.le_trans (Nat.mul_le_mul_right _ (by omega)) hJs
        have hj1 : (j0 + 1) * 1 ≤ (j0 + 1) * (s0 + 1) := Nat.mul_le_mul_left _ (by omega)
        have hpx : x.natAbs + 60 ≤ 2 ^ (37 * (s0 + 1)) := by
          have h3 : 37 * (s0 + 1) = 31 * (s0 + 1) + (6 * (s0 + 1)) := by omega
          have h4 : 2 ^ 6 ≤ 2 ^ (6 * (s0 + 1)) := pow_mono (by omega)
          have h5 : 1 ≤ 2 ^ (31 * (s0 + 1)) := Nat.one_le_two_pow
          rw [h3, Nat.pow_add]
          have h6 : 2 ^ (31 * (s0 + 1)) * 64 ≤ 2 ^ (31 * (s0 + 1)) * 2 ^ (6 * (s0 + 1)) := Nat.mul_le_mul_left _ h4
          omega
        have hmc : ∀ k, k ≤ j0 + 1 → (mc x k).natAbs ≤ 2 ^ 4600 := fun k hk => by
          refine Nat.le_trans (mc_abs (a := 37 * (s0 + 1)) k (by omega)) (pow_mono ?_)
          have h7 : 37 * (s0 + 1) * k ≤ 37 * (s0 + 1) * (j0 + 1) := Nat.mul_le_mul_left _ hk
          have h8 : 37 * (s0 + 1) * (j0 + 1) = 37 * ((j0 + 1) * (s0 + 1)) := by rw [Nat.mul_assoc, Nat.mul_comm (s0 + 1)]
          omega
        have hxj : (x + (1 + (j0 : Int)) - 1).natAbs < 2 ^ 2300 := by
          have h9 : 2 ^ (37 * (s0 + 1)) < 2 ^ 2300 := Nat.pow_lt_pow_right (by decide) (by omega)
          omega
        have eax : upto (q d v') (s0 + 1) (s0 + 1) = x := (if_pos (Nat.le_refl _)).trans hxx
        refine ⟨_, rfl, _, rfl, _, rfl, c, _, _, _, rfl, rfl, hereL (bA _ _ hgc kc), at_firsts' (k := s0 + 1) (by omega) es1, ?_⟩
        rw [eax]
        refine ⟨_, rfl, _, _, rfl, rfl, _, _, rfl, rfl, _, _, rfl, rfl, wide_mul (lt_pow (hmc j0 (by omega)) (show 4600 < 4700 by omega)) hxj (by decide) (by decide) (by decide), _, rfl, _, _, rfl, rfl, ⟨by omega, by omega⟩, ?_⟩
        dsimp only
        have ew : mc x j0 * (x + (1 + (j0 : Int)) - 1) / (1 + (j0 : Int)) = mc x (j0 + 1) := by
          show _ = mc x j0 * (x + (j0 : Int)) / ((j0 + 1 : Nat) : Int)
          congr 2 <;> omega
        rw [ew]
        have hms : (1 + (j0 : Int)) * (1 + (s0 : Int)) = (((j0 + 1) * (s0 + 1) : Nat) : Int) := by rw [es1, ej1, Int.natCast_mul]
        refine ⟨_, rfl, _, rfl, _, _, rfl, rfl, .inl ⟨by omega, by omega⟩, _, rfl, _, _, rfl, rfl, _, _, rfl, ⟨(by rw [hms]; omega), (by rw [hms]; omega), (by rw [em]; omega), (by rw [em]; omega)⟩, ?_⟩
        refine forR (m := i + 1 - (j0 + 1) * (s0 + 1)) (by rw [em, hms]; omega) (fun m0 σ H' => ∃ y13, σ = [some (.int d), some (.int v), some (.int n), some (.ref b), some (.int ((n : Int) + (i : Nat) * -1)), some (.int ((n : Int) - ((n : Int) + (i : Nat) * -1))), some (.ref a), some (.ref c), some (.ref e), some (.int (1 + (s0 : Int))), some (.ref g), some (.int (mc x (j0 + 1))), some (.int (1 + (j0 : Int))), y13, none] ∧
          But g H9 H' ∧ H' g = some (.lst (vI (firsts (gm (s0 + 1) x (C (q d v') s0) j0 m0) (i + 1))))) ⟨_, rfl, bA, ?_⟩ (fun m0 σ HB hm0 hP => ?_) (fun σ HB hP => ?_)
        · rw [eg]
          congr 3
          exact firsts_congr fun k _ => (gm_zero _ _ _ _ k).symm
        · obtain ⟨y13, rfl, bB, eg2⟩ := hP
          have eim : (1 + (j0 : Int)) * (1 + (s0 : Int)) + (m0 : Int) = (((j0 + 1) * (s0 + 1) + m0 : Nat) : Int) := by rw [hms]; omega
          have b1 := lt_pow (C_abs s0 m0 (by omega) (by omega) hqs) (show 38 * m0 + s0 < 2400 by omega)
          have b2 := lt_pow (hmc (j0 + 1) (by omega)) (show 4600 < 4700 by omega)
          refine ⟨_, rfl, _, rfl, g, _, _, _, rfl, rfl, hereL eg2, at_firsts' (k := (j0 + 1) * (s0 + 1) + m0) (by omega) eim, _, rfl, _, rfl, _, rfl, _, rfl, _, _, rfl, rfl, .inl ⟨by omega, by omega⟩, _, _, rfl, rfl, a, _, _, _, rfl, rfl, hereL (bB _ _ hga ka), at_firsts' (k := m0) (by omega) (by omega), _, rfl, _, _, rfl, rfl, wide_mul b1 b2 (by decide) (by decide) (by decide), _, _, rfl, rfl, _, rfl, _, rfl, g, _, _, (j0 + 1) * (s0 + 1) + m0, rfl, rfl, eg2, (by rw [eim, vI_len, firsts_len]; exact ixN_nat (by omega)), ?_⟩
          refine ⟨_, rfl, fun z o hz hzo => ?_, ?_⟩
          · rw [upd_ne hz]
            exact bB z o hz hzo
          · rw [upd_same, firsts_set (by omega)]
            congr 3
            exact firsts_congr fun k _ => (gm_step _ _ _ _ _ k).symm
        · obtain ⟨y13, rfl, bB, eg2⟩ := hP
          refine ⟨_, _, rfl, bB, ?_⟩
          rw [eg2]
          congr 3
          exact firsts_congr fun k hk => gm_end _ _ _ _ _ k (by omega)
      · -- plans = grown
        obtain ⟨y12, y13, rfl, bA, eg⟩ := hP
        refine ⟨_, rfl, g, _, _, _, _, _, rfl, fun z o hz => bA z o (fun y => by rw [y, hgH] at hz; cases hz) (s9 z o hz), hbc, hbe, hgc.symm, hge.symm, bA _ _ hgb kb, ?_, bA _ _ hgc kc, bA _ _ hge ke⟩
        rw [eg]
        congr 3
        refine firsts_congr fun k hk => ?_
        show gs (s0 + 1) x (C (q d v') s0) J k = conv (fB (s0 + 1) (q d v' (s0 + 1))) (C (q d v') s0) k
        rw [hxx, ← hJ]
        exact gs_full (Nat.succ_pos s0) x _ (by omega)
    · obtain ⟨a, y9, y10, y11, y12, y13, rfl, s6, _, _, _, _, _, fa, fc, fe⟩ := hM
      have ev : (v : Int) + n - ((i + 1 : Nat) : Int) + 1 = v' := by omega
      refine ⟨_, rfl, a, _, _, _, _, _, _, _, _, _, _, rfl, s6, ?_, fun _ => ⟨c, rfl, rfl, ?_⟩⟩
      · rw [ev]
        unfold upTo
        rw [Nat.max_eq_left (by omega), fa]
        congr 3
        refine firsts_congr fun k hk => ?_
        rw [C_stable _ (show k ≤ i by omega), p_E]
        rfl
      · rw [ev]
        unfold upTo
        rw [Nat.max_eq_left (by omega), fc]
        congr 3
        refine firsts_congr fun k hk => ?_
        show (if k ≤ i then _ else _) = _
        rw [if_pos (by omega)]
  · obtain ⟨b, y4, y5, y6, y7, y8, y9, y10, y11, y12, y13, rfl, s1, eb, hc⟩ := hP
    obtain ⟨c, rfl, rfl, ec⟩ := hc (Nat.succ_pos n)
    have ev : (v : Int) + (n : Int) - ((n + 1 : Nat) : Int) + 1 = (v : Int) := by omega
    rw [ev] at eb ec
    unfold upTo at eb ec
    rw [Nat.max_eq_left (by omega)] at eb ec
    refine ⟨_, rfl, _, rfl, (by show 2 ≤ sizeLine; decide), fun t nt => ?_⟩
    refine post _ _ ⟨t, b, c, rfl, same_upd_at s1 (s1.free nt), upd_same, ?_, ?_⟩
    · rw [upd_ne (ne_of_none eb nt)]
      exact eb
    · rw [upd_ne (ne_of_none ec nt)]
      exact ec
end
end K64
end
section
set_option Elab.async false
set_option linter.all false
set_option maxRecDepth 100000
set_option maxHeartbeats 4000000
namespace K64
open PySem PySem.Spec PyProof.Rows L2 KM SS2
theorem cut8 (cs : List Nat) : cutS (sOf cs) none (some 8) = sOf (cs.take 8) := by
  unfold cutS
  have e : HT.sIx (sOf cs).length (sOf cs).length (some 8) = min 8 cs.length := HT.sIx_nat cs.length cs.length 8
  rw [e, HT.sIx_none]
  show (⟨((cs.drop 0).take (min 8 cs.length - 0)).toArray⟩ : Str) = _
  rw [List.drop_zero, Nat.sub_zero]
  by_cases h : cs.length ≤ 8
  · rw [Nat.min_eq_right h, List.take_length, List.take_of_length_le h]
  · rw [Nat.min_eq_left (by omega)]
theorem lt_take {cs : List Nat} (h : Lt cs) (n : Nat) : Lt (cs.take n) := ⟨fun c hc => h.1 c (List.mem_of_mem_take hc), h.2.sublist (List.take_sublist n cs)⟩
theorem nodup_sub : ∀ (l m : List Nat), l.Nodup → (∀ x ∈ l, x ∈ m) → l.length ≤ m.length
  | [], _, _, _ => Nat.zero_le _
  | x :: l, m, h, hs => by
    obtain ⟨h1, h2⟩ := List.nodup_cons.mp h
    have hx := hs x List.mem_cons_self
    have ih := nodup_sub l (m.erase x) h2 fun y hy => (List.mem_erase_of_ne (fun z => h1 (by rw [← z]; exact hy))).mpr (hs y (List.mem_cons_of_mem _ hy))
    have hl := List.length_erase_of_mem hx
    have : 0 < m.length := List.length_pos_of_mem hx
    rw [List.length_cons]
    omega
/-- letters that are not among some -/
def spares (ns : List Nat) : List Nat := ((List.range 26).filter fun i => !decide (97 + i ∈ ns)).map (97 + ·)
theorem spares_mem {ns : List Nat} {c : Nat} (h : c ∈ spares ns) : 97 ≤ c ∧ c ≤ 122 ∧ c ∉ ns := by
  unfold spares at h
  obtain ⟨i, hi, rfl⟩ := List.mem_map.mp h
  obtain ⟨h1, h2⟩ := List.mem_filter.mp hi
  have := List.mem_range.mp h1
  refine ⟨by omega, by omega, fun z => ?_⟩
  rw [decide_eq_true z] at h2
  cases h2
theorem spares_some {ns : List Nat} (h : ns.length ≤ 8) : 0 < (spares ns).length := by
  by_cases c : 0 < (spares ns).length
  · exact c
  · have e : spares ns = [] := List.length_eq_zero_iff.mp (by omega)
    have h2 := nodup_sub ((List.range 26).map (97 + ·)) ns (by decide) fun x hx => by
      obtain ⟨i, hi, rfl⟩ := List.mem_map.mp hx
      by_cases m : 97 + i ∈ ns
      · exact m
      · have : 97 + i ∈ spares ns := List.mem_map.mpr ⟨i, List.mem_filter.mpr ⟨hi, by rw [decide_eq_false m]; rfl⟩, rfl⟩
        rw [e] at this
        cases this
    rw [List.length_map, List.length_range] at h2
    omega
theorem spares_len (ns : List Nat) : (spares ns).length ≤ 26 := by
  unfold spares
  rw [List.length_map]
  have := List.length_filter_le (fun i => !decide (97 + i ∈ ns)) (List.range 26)
  rwa [List.length_range] at this
theorem small_get {i c : Nat} (h : smallS.cps[i]? = some c) : i < 26 ∧ c = 97 + i := by
  have h2 : smallS.cps.toList[i]? = some c := by rw [Array.getElem?_toList]; exact h
  rw [small_codes, List.getElem?_map] at h2
  by_cases hi : i < 26
  · rw [List.getElem?_range hi] at h2
    exact ⟨hi, by rw [← Option.some.inj h2, Nat.add_comm]⟩
  · rw [List.getElem?_eq_none (by rw [List.length_range]; omega)] at h2
    cases h2
theorem spares_vals (ns : List Nat) : lcL (fun i => !decide (97 + i ∈ ns)) (fun i => V.str (sOf [97 + i])) 26 = ((spares ns).map fun c => sOf [c]).map V.str := by
  unfold lcL spares
  rw [List.map_map, List.map_map]
  rfl
section
variable {P : Program} {w : World} {K : PySem.W.Frag} {mg : Str → Option Value} {base : Heap}
abbrev spGreat : Sp := mkSp (fun z : List Nat × List Nat × TR => [.str (sOf z.1), .str (sOf z.2.1), .ref z.2.2.t]) (fun z H => (Lt z.1 ∧ z.1.length ≤ 60) ∧ (Lt z.2.1 ∧ z.2.1.length ≤ 60) ∧ Tp H z.2.2) (fun z H v H' => v = .bl true ∧ Go z.2.2 H H')
theorem cl_lawGreat (T : Top K mg) : Cl P w K mg base 6 "_law_great" spGreat := by
  have G_lawPick : Cl P w K mg base 1 "_law_pick" spLawPick := cl_lawPick T
  have G_lawModel : Cl P w K mg base 1 "_law_model" spCounted := cl_lawModel T
  have G_count : Cl P w K mg base 5 "count" (sp3 okA fun a => p a.1.length a.2.1.length a.2.2) := cl_count T
  have G_countPrimes : Cl P w K mg base 4 "count_primes" (sp3 (fun a => okA a ∧ 1 ≤ a.2.2) fun a => q a.1.length a.2.1.length a.2.2) := cl_countPrimes T
  refine T.lawGreat.cal scLawGreat (fun _ => rfl) (fun f cdv A outer s H z E Q hr pre post => ?_)
  obtain ⟨ds, ns, τ⟩ := z
  obtain ⟨⟨hd, hdl⟩, ⟨hn, hnl⟩, hT⟩ := pre
  dsimp only at hd hdl hn hnl hT post
  have nd := scLawGreat.nd
  refine ⟨_, (pss_cons (ps_set (i := 3) nd rfl (.inl rfl) (pe_op op_add pe_int (pcl G_lawPick hr (pa_cons (pv 2) (pa_cons pe_int pa_nil)))))
      (pss_cons (ps_asg (pcl G_lawModel hr (pa_cons (pe_callB (r := rLenK K) call_lenK (by rfl) T.len (by decide +kernel) (pa_cons (pe_slice sl_str (pv 0) po_none (po_some pe_int)) pa_nil)) (pa_cons (pe_callB (r := rLenK K) call_lenK (by rfl) T.len (by decide +kernel) (pa_cons (pe_slice sl_str (pv 1) po_none (po_some pe_int)) pa_nil)) (pa_cons (pv 3) pa_nil)))) (pg_tup rfl (pgs_cons (pg_name (i := 4) nd rfl (.inl rfl)) (pgs_cons (pg_name (i := 5) nd rfl (.inl rfl)) pgs_nil))))
      (pss_one (ps_ret (pe_and (pe_cmpR op_eq (pcl G_count hr (pa_cons (pe_slice sl_str (pv 0) po_none (po_some pe_int)) (pa_cons (pe_slice sl_str (pv 1) po_none (po_some pe_int)) (pa_cons (pv 3) pa_nil)))) (pe_ix (r := rIxL K) ix_list (pv 4) (pv 3) (fun _ _ => rfl)) (nomark _)) (pe_one (pe_cmpR op_eq (pcl G_countPrimes hr (pa_cons (pe_slice sl_str (pv 0) po_none (po_some pe_int)) (pa_cons (pe_slice sl_str (pv 1) po_none (po_some pe_int)) (pa_cons (pv 3) pa_nil)))) (pe_ix (r := rIxL K) ix_list (pv 5) (pv 3) (fun _ _ => rfl)) (nomark _)))))))), ?_⟩
  have ld : (ds.take 8).length ≤ 8 := by rw [List.length_take]; omega
  have ln : (ns.take 8).length ≤ 8 := by rw [List.length_take]; omega
  have zd : (sOf ds).length ≤ sizeLine := line1000 (by show ds.length ≤ 1000; omega)
  have zn : (sOf ns).length ≤ sizeLine := line1000 (by show ns.length ≤ 1000; omega)
  have zd8 : (sOf (ds.take 8)).length ≤ sizeLine := line1000 (by show (ds.take 8).length ≤ 1000; omega)
  have zn8 : (sOf (ns.take 8)).length ≤ sizeLine := line1000 (by show (ns.take 8).length ≤ 1000; omega)
  have hLt : LtP (ds.take 8, ns.take 8) := ⟨⟨lt_take hd 8, ld⟩, ⟨lt_take hn 8, ln⟩⟩
  refine ⟨_, rfl, (τ, 48), rfl, ⟨hT, (by show (1 : Int) ≤ 48; decide), (by show (48 : Int) ≤ 1000; decide)⟩, fun v H1 ⟨r, ev, r0, r1, g1⟩ => ?_⟩
  subst ev
  have r1 : r < 48 := r1
  obtain ⟨n, hn0⟩ : ∃ n : Nat, 13 + r = (n : Int) := ⟨(13 + r).toNat, by omega⟩
  refine ⟨_, _, rfl, rfl, ?_⟩
  dsimp only
  rw [hn0]
  refine ⟨_, rfl, 8, rfl, _, rfl, zd, ?_⟩
  rw [cut8]
  refine ⟨_, _, rfl, ⟨zd8, rfl⟩, _, rfl, 8, rfl, _, rfl, zn, ?_⟩
  rw [cut8]
  refine ⟨_, _, rfl, ⟨zn8, rfl⟩, _, rfl, ((ds.take 8).length, (ns.take 8).length, n), rfl, ⟨ld, ln, by show n ≤ 60; omega⟩, fun v H2 ⟨t, x, y, ev, s2, e1, e2, e3⟩ => ?_⟩
  subst ev
  refine ⟨t, _, rfl, hereT e1, rfl, _, _, rfl, _, _, rfl, rfl, ?_⟩
  -- count == plans[n]
  refine ⟨_, rfl, 8, rfl, _, rfl, zd, ?_⟩
  rw [cut8]
  refine ⟨_, rfl, 8, rfl, _, rfl, zn, ?_⟩
  rw [cut8]
  refine ⟨_, rfl, (ds.take 8, ns.take 8, n), rfl, ⟨hLt, by show n ≤ 60; omega⟩, fun v H3 ⟨ev, s3⟩ => ?_⟩
  subst ev
  refine ⟨_, rfl, _, rfl, x, _, _, _, rfl, rfl, hereL (s3 _ _ e2), at_firsts (k := n) (by show n < n + 1; omega), rfl, true, congrArg V.bl (decide_eq_true rfl), iteT ?_⟩
  refine ⟨_, rfl, 8, rfl, _, rfl, zd, ?_⟩
  rw [cut8]
  refine ⟨_, rfl, 8, rfl, _, rfl, zn, ?_⟩
  rw [cut8]
  refine ⟨_, rfl, (ds.take 8, ns.take 8, n), rfl, ⟨⟨hLt, by show n ≤ 60; omega⟩, by show 1 ≤ n; omega⟩, fun v H4 ⟨ev, s4⟩ => ?_⟩
  subst ev
  exact ⟨_, rfl, _, rfl, y, _, _, _, rfl, rfl, hereL (s4 _ _ (s3 _ _ e3)), at_firsts (k := n) (by show n < n + 1; omega), rfl, post _ _ ⟨congrArg V.bl (decide_eq_true rfl), ((g1.same s2).same s3).same s4⟩⟩
end
end K64
end
section
set_option Elab.async false
set_option linter.all false
set_option maxRecDepth 100000
set_option maxHeartbeats 4000000
namespace K64
open PySem PySem.Spec PyProof.Rows L2 KM SS2
section
variable {P : Program} {w : World} {K : PySem.W.Frag} {mg : Str → Option Value} {base : Heap}
abbrev spLaw (K : PySem.W.Frag) : Sp := mkSp (fun z : Addr × List Int => [.ref z.1]) (fun z H => SqL K H z.1 (vI z.2) ∧ z.2.length ≤ 63) (fun _ _ v _ => v = .bl true)
theorem ok_law (T : Top K mg) {f : Addr} {fd : FuncData} (F : Fun K "law" "law" sLaw f fd) : FnOk P w K mg base CX0 7 f fd ["_law_script"] (spLaw K) := by
  have G_lawTape : Cl P w K mg base 1 "_law_tape" (spLawTape K) := cl_lawTape T
  have G_lawPick : Cl P w K mg base 1 "_law_pick" spLawPick := cl_lawPick T
  have G_lawLetters : Cl P w K mg base 2 "_law_letters" spLetters := cl_lawLetters T
  have G_lawBagSum : Cl P w K mg base 6 "_law_bag_sum" (spTrue3 fun a => LtP (a.1, a.2.1) ∧ a.2.2 ≤ 8) := cl_lawBagSum T
  have G_lawWith : Cl P w K mg base 6 "_law_with" (spTrue3 fun a => LtP (a.1, a.2.1) ∧ a.2.2 ≤ 8) := cl_lawWith T
  have G_lawGreat : Cl P w K mg base 6 "_law_great" spGreat := cl_lawGreat T
  have G_lawDivisors : Cl P w K mg base 1 "_law_divisors" spLawDivisors := cl_lawDivisors T
  have G_lawWaits : Cl P w K mg base 6 "_law_waits" spLawWaits := cl_lawWaits T
  have G_count : Cl P w K mg base 5 "count" (sp3 okA fun a => p a.1.length a.2.1.length a.2.2) := cl_count T
  refine F.ok scLaw (fun vs H Q E h => ?_) (fun cdv A outer s H vs Q E hr h => ?_)
  · obtain ⟨a, rfl, _⟩ := h
    rfl
  obtain ⟨⟨a, ns0⟩, rfl, ⟨ha, hl⟩, post⟩ := h
  dsimp only at ha hl post
  have nd := scLaw.nd
  refine ⟨_, (pss_cons (ps_set (i := 1) nd rfl (.inl rfl) (pcl G_lawTape hr (pa_cons (pv 0) pa_nil)))
      (pss_cons (ps_set (i := 2) nd rfl (.inr rfl) (pcl G_lawLetters hr (pa_cons (pv 1) (pa_cons (pcl G_lawPick hr (pa_cons (pv 1) (pa_cons pe_int pa_nil))) pa_nil))))
      (pss_cons (ps_set (i := 3) nd rfl (.inr rfl) (pcl G_lawLetters hr (pa_cons (pv 1) (pa_cons (pcl G_lawPick hr (pa_cons (pv 1) (pa_cons pe_int pa_nil))) pa_nil))))
      (pss_cons (ps_if (PW.pt (pw_or (pt_not (pt_val (pcl G_lawBagSum hr (pa_cons (pv 2) (pa_cons (pv 3) (pa_cons (pcl G_lawPick hr (pa_cons (pv 1) (pa_cons pe_int pa_nil))) pa_nil)))))) (pw_or1 (pt_not (pt_val (pcl G_lawWith hr (pa_cons (pv 2) (pa_cons (pv 3) (pa_cons (pcl G_lawPick hr (pa_cons (pv 1) (pa_cons pe_int pa_nil))) pa_nil))))))))) (pss_one (ps_ret pe_bl)) pss_nil)
      (pss_cons (ps_set (i := 4) nd rfl (.inr rfl) (pe_op op_add pe_int (pcl G_lawPick hr (pa_cons (pv 1) (pa_cons pe_int pa_nil)))))
      (pss_cons (ps_set (i := 5) nd rfl (.inl rfl) (pcl G_lawPick hr (pa_cons (pv 1) (pa_cons pe_int pa_nil))))
      (pss_cons (ps_if (pt_cmpR op_eq (pv 5) pe_int (nomark _)) (pss_one (ps_set (i := 4) nd rfl (.inr rfl) pe_int)) pss_nil)
      (pss_cons (ps_if (pt_cmpR op_eq (pv 5) pe_int (nomark _)) (pss_cons (ps_set (i := 6) nd rfl (.inl rfl) (pcl G_lawLetters hr (pa_cons (pv 1) (pa_cons (pcl G_lawPick hr (pa_cons (pv 1) (pa_cons pe_int pa_nil))) pa_nil))))
      (pss_one (ps_if (pt_not (pt_val (pcl G_lawGreat hr (pa_cons (pv 6) (pa_cons (pcl G_lawLetters hr (pa_cons (pv 1) (pa_cons (pcl G_lawPick hr (pa_cons (pv 1) (pa_cons pe_int pa_nil))) pa_nil))) (pa_cons (pv 1) pa_nil)))))) (pss_one (ps_ret pe_bl)) pss_nil))) pss_nil)
      (pss_cons (ps_setLc (i := 7) (own := [("_law_sign", 10)]) (g := gName 10) (by rfl) nd rfl rfl (sw_true rfl rfl rfl (by decide +kernel)) (pi_str pe_str) (blkOk_by (N := ["_law_script", "_law_tape_here", "_law_letters_here", "_law_words", "_law_n", "_law_great_here", "_law_many", "_law_spare", "_law_more", "_law_total", "_law_sign", "_law_k"]) (sc := defScope sLaw) (by decide +kernel)) (fun _ _ _ _ _ => (pg_name (i := 10) nd rfl (Or.inl rfl))) (fun _ _ _ _ _ => (pts_one (pt_cmpR op_notIn_sign (pv 10) (pv 3) rfl))) (fun _ _ _ _ _ => (pv 10)))
      (pss_cons (ps_set (i := 8) nd rfl (.inl rfl) (pe_join pe_str (pe_callB (r := rSortedS K) cr_sortedS (by rfl) T.sorted (by decide +kernel) (pa_cons (pe_op op_cat (pe_lc (own := [("_law_sign", 10)]) (g := gName 10) (by rfl) nd (pi_str (pv 3)) (blkOk_by (N := ["_law_script", "_law_tape_here", "_law_letters_here", "_law_words", "_law_n", "_law_great_here", "_law_many", "_law_spare", "_law_more", "_law_total", "_law_sign", "_law_k"]) (sc := defScope sLaw) (by decide +kernel)) (fun _ _ _ _ _ => (pg_name (i := 10) nd rfl (Or.inl rfl))) (fun _ _ _ _ _ => pts_nil) (fun _ _ _ _ _ => (pv 10))) (pe_lst (pa_cons (pe_ix (r := rIxL K) ix_list (pv 7) (pcl G_lawPick hr (pa_cons (pv 1) (pa_cons (pe_callB (r := rLenK K) call_lenK (by rfl) T.len (by decide +kernel) (pa_cons (pv 7) pa_nil)) pa_nil))) (fun _ _ => rfl)) pa_nil))) pa_nil))))
      (pss_cons (ps_set (i := 9) nd rfl (.inl rfl) (pe_callB (r := rSum K) (cr_sum rfl) (by rfl) T.sum (by decide +kernel) (pa_cons (pe_lc (own := [("_law_k", 11)]) (g := gName 11) (by rfl) nd (pi_list (pcl G_lawDivisors hr (pa_cons (pv 4) pa_nil))) (blkOk_by (N := ["_law_script", "_law_tape_here", "_law_letters_here", "_law_words", "_law_n", "_law_great_here", "_law_many", "_law_spare", "_law_more", "_law_total", "_law_sign", "_law_k"]) (sc := defScope sLaw) (by decide +kernel)) (fun _ _ _ _ _ => (pg_name (i := 11) nd rfl (Or.inl rfl))) (fun _ _ _ _ _ => pts_nil) (fun _ _ _ _ _ => (pcl G_lawWaits hr (pa_cons (pv 2) (pa_cons (pv 3) (pa_cons (pe_op op_fdiv (pv 4) (pv 11)) pa_nil)))))) pa_nil)))
      (pss_one (ps_ret (pe_cmpR op_eq (pv 9) (pe_op op_mul (pe_callB (r := rLenK K) call_lenK (by rfl) T.len (by decide +kernel) (pa_cons (pv 2) pa_nil)) (pcl G_count hr (pa_cons (pv 2) (pa_cons (pv 8) (pa_cons (pe_op op_sub (pv 4) pe_int) pa_nil))))) (nomark _))))))))))))))), ?_⟩
  refine ⟨_, rfl, (a, ns0), rfl, ⟨ha, hl⟩, fun v H1 ⟨τ, ev, s1, hT⟩ => ?_⟩
  subst ev
  refine ⟨_, rfl, _, rfl, (τ, 9), rfl, ⟨hT, (by show (1 : Int) ≤ 9; decide), (by show (9 : Int) ≤ 1000; decide)⟩, fun v H2 ⟨r, ev, r0, r1, g2⟩ => ?_⟩
  subst ev
  obtain ⟨m, rfl⟩ : ∃ m : Nat, r = (m : Int) := ⟨r.toNat, by omega⟩
  have r1 : (m : Int) < 9 := r1
  refine ⟨(τ, m), rfl, ⟨g2.2, by show m ≤ 60; omega⟩, fun v H3 ⟨ds, ev, hds, hdl, g3⟩ => ?_⟩
  subst ev
  have hdl : ds.length ≤ m := hdl
  refine ⟨_, rfl, _, rfl, (τ, 8), rfl, ⟨g3.2, (by show (1 : Int) ≤ 8; decide), (by show (8 : Int) ≤ 1000; decide)⟩, fun v H4 ⟨r2, ev, r20, r21, g4⟩ => ?_⟩
  subst ev
  obtain ⟨m2, rfl⟩ : ∃ m : Nat, r2 = (m : Int) := ⟨r2.toNat, by omega⟩
  have r21 : (m2 : Int) < 8 := r21
  refine ⟨(τ, m2), rfl, ⟨g4.2, by show m2 ≤ 60; omega⟩, fun v H5 ⟨ns, ev, hns, hnl, g5⟩ => ?_⟩
  subst ev
  have hnl : ns.length ≤ m2 := hnl
  have hd8 : ds.length ≤ 8 := by omega
  have hn7 : ns.length ≤ 7 := by omega
  have hLt : LtP (ds, ns) := ⟨⟨hds, hd8⟩, ⟨hns, by show ns.length ≤ 8; omega⟩⟩
  -- bag_sum, with
  refine ⟨_, rfl, _, rfl, _, rfl, (τ, 9), rfl, ⟨g5.2, (by show (1 : Int) ≤ 9; decide), (by show (9 : Int) ≤ 1000; decide)⟩, fun v H6 ⟨r3, ev, r30, r31, g6⟩ => ?_⟩
  subst ev
  obtain ⟨n3, rfl⟩ : ∃ m : Nat, r3 = (m : Int) := ⟨r3.toNat, by omega⟩
  have r31 : (n3 : Int) < 9 := r31
  refine ⟨(ds, ns, n3), rfl, ⟨hLt, by show n3 ≤ 8; omega⟩, fun v H7 ⟨ev, s7⟩ => ?_⟩
  subst ev
  refine ⟨true, rfl, iteF ?_⟩
  refine ⟨_, rfl, _, rfl, _, rfl, (τ, 9), rfl, ⟨g6.2.same s7, (by show (1 : Int) ≤ 9; decide), (by show (9 : Int) ≤ 1000; decide)⟩, fun v H8 ⟨r4, ev, r40, r41, g8⟩ => ?_⟩
  subst ev
  obtain ⟨n4, rfl⟩ : ∃ m : Nat, r4 = (m : Int) := ⟨r4.toNat, by omega⟩
  have r41 : (n4 : Int) < 9 := r41
  refine ⟨(ds, ns, n4), rfl, ⟨hLt, by show n4 ≤ 8; omega⟩, fun v H9 ⟨ev, s9⟩ => ?_⟩
  subst ev
  refine ⟨true, rfl, iteF ?_⟩
  -- n
  refine ⟨_, rfl, (τ, 12), rfl, ⟨g8.2.same s9, (by show (1 : Int) ≤ 12; decide), (by show (12 : Int) ≤ 1000; decide)⟩, fun v H10 ⟨r5, ev, r50, r51, g10⟩ => ?_⟩
  subst ev
  obtain ⟨n5, rfl⟩ : ∃ m : Nat, r5 = (m : Int) := ⟨r5.toNat, by omega⟩
  have r51 : (n5 : Int) < 12 := r51
  refine ⟨_, _, rfl, rfl, ?_⟩
  refine ⟨_, rfl, (τ, 16), rfl, ⟨g10.2, (by show (1 : Int) ≤ 16; decide), (by show (16 : Int) ≤ 1000; decide)⟩, fun v H11 ⟨r6, ev, r60, r61, g11⟩ => ?_⟩
  subst ev
  dsimp only
  refine ⟨_, rfl, rfl, _, rfl, ?_⟩
  refine ifS_join (fun σ H' => ∃ n : Nat, 1 ≤ n ∧ n ≤ 30 ∧ σ = [some (.ref a), some (.ref τ.t), some (.str (sOf ds)), some (.str (sOf ns)), some (.int n), some (.int r6), none, none, none, none, none, none] ∧ Tp H' τ) (fun c1 N hN => ?_) (fun c1 N hN => ?_) (fun σ H12 hG => ?_)
  · exact hN _ _ ⟨30, by decide, by decide, rfl, g11.2⟩
  · exact hN _ _ ⟨n5 + 1, by omega, by omega, by show [_, _, _, _, some (V.int (1 + (n5 : Int))), _, _, _, _, _, _, _] = _; rw [show (1 : Int) + (n5 : Int) = ((n5 + 1 : Nat) : Int) by omega], g11.2⟩
  obtain ⟨n, hn1, hn30, rfl, hT⟩ := hG
  clear g11 g10 s9 g8 s7 g6 g5 g4 g3 g2
  -- great
  refine ⟨_, rfl, rfl, _, rfl, ?_⟩
  refine ifS_join (fun σ H' => ∃ y, σ = [some (.ref a), some (.ref τ.t), some (.str (sOf ds)), some (.str (sOf ns)), some (.int n), some (.int r6), y, none, none, none, none, none] ∧ Tp H' τ) (fun c1 N hN => ?_) (fun c1 N hN => ?_) (fun σ H13 hG => ?_)
  · refine ⟨_, rfl, _, rfl, (τ, 20), rfl, ⟨hT, (by show (1 : Int) ≤ 20; decide), (by show (20 : Int) ≤ 1000; decide)⟩, fun v H2 ⟨r, ev, r0, r1, g2⟩ => ?_⟩
    subst ev
    obtain ⟨m, rfl⟩ : ∃ m : Nat, r = (m : Int) := ⟨r.toNat, by omega⟩
    have r1 : (m : Int) < 20 := r1
    refine ⟨(τ, m), rfl, ⟨g2.2, by show m ≤ 60; omega⟩, fun v H3 ⟨es, ev, hes, hel, g3⟩ => ?_⟩
    subst ev
    have hel : es.length ≤ m := hel
    refine ⟨_, rfl, _, rfl, _, rfl, (τ, 20), rfl, ⟨g3.2, (by show (1 : Int) ≤ 20; decide), (by show (20 : Int) ≤ 1000; decide)⟩, fun v H4 ⟨r2, ev, r20, r21, g4⟩ => ?_⟩
    subst ev
    obtain ⟨m2, rfl⟩ : ∃ m : Nat, r2 = (m : Int) := ⟨r2.toNat, by omega⟩
    have r21 : (m2 : Int) < 20 := r21
    refine ⟨(τ, m2), rfl, ⟨g4.2, by show m2 ≤ 60; omega⟩, fun v H5 ⟨fs, ev, hfs, hfl, g5⟩ => ?_⟩
    subst ev
    have hfl : fs.length ≤ m2 := hfl
    refine ⟨_, rfl, (es, fs, τ), rfl, ⟨⟨hes, by show es.length ≤ 60; omega⟩, ⟨hfs, by show fs.length ≤ 60; omega⟩, g5.2⟩, fun v H6 ⟨ev, g6⟩ => ?_⟩
    subst ev
    exact ⟨true, rfl, iteF (hN _ _ ⟨_, rfl, g6.2⟩)⟩
  · exact hN _ _ ⟨_, rfl, hT⟩
  obtain ⟨y, rfl, hT⟩ := hG
  -- spare
  refine ⟨_, rfl, fun D nD => ?_⟩
  refine lcT (fun i => !decide (97 + i ∈ ns)) (fun i => V.str (sOf [97 + i])) (line1000 (by decide +kernel)) nD (fun _ => rfl) (fun i c H1 hc s1 Q r => ?_) (fun i c H1 hc _ s1 R r => ?_) (fun H14 s14 e14 => ?_)
  · obtain ⟨_, rfl⟩ := small_get hc
    exact ⟨_, rfl, _, rfl, _, _, rfl, rfl, _, rfl, r⟩
  · obtain ⟨_, rfl⟩ := small_get hc
    exact ⟨_, rfl, r _ (Same.refl _)⟩
  rw [show (Str.ofString "abcdefghijklmnopqrstuvwxyz").cps.size = 26 by decide +kernel, spares_vals] at e14
  have hT14 := hT.same s14
  have nDt : D ≠ τ.t := (hT.ne nD).1.symm
  have hsp0 := spares_some (ns := ns) (by omega)
  have hsp26 := spares_len ns
  -- more
  refine ⟨⟨_, rfl⟩, _, rfl, _, rfl, fun D2 nD2 => ?_⟩
  have hz : (sOf ns).cps.size = ns.length := rfl
  refine lcT (fun _ => true) (fun i => V.str (sOf [ns.getD i 0])) (line1000 (by omega)) nD2 (fun _ => rfl) (fun i c H1 hc s1 Q r => r) (fun i c H1 hc _ s1 R r => ?_) (fun H15 s15 e15 => ?_)
  · have h2 : ns[i]? = some c := by
      have h3 : (sOf ns).cps.toList[i]? = some c := by rw [Array.getElem?_toList]; exact hc
      exact h3
    have h4 : ns.getD i 0 = c := by rw [List.getD_eq_getElem?_getD, h2]; rfl
    rw [h4] at r
    exact ⟨_, rfl, r _ (Same.refl _)⟩
  rw [hz, over_all ns 0 (fun c => V.str (sOf [c]))] at e15
  have d15 := s15 _ _ e14
  have hT15 := hT14.same s15
  have nD2t : D2 ≠ τ.t := (hT14.ne nD2).1.symm
  have hlen : (((spares ns).map fun c => sOf [c]).map V.str).length = (spares ns).length := by rw [List.length_map, List.length_map]
  refine ⟨_, rfl, _, rfl, _, rfl, _, _, rfl, .inl ⟨_, hereL d15, rfl⟩, (τ, ((spares ns).length : Int)), ?_, ⟨hT15, by show (1 : Int) ≤ ((spares ns).length : Int); omega, by show ((spares ns).length : Int) ≤ 1000; omega⟩, fun v H16 ⟨r7, ev, r70, r71, g16⟩ => ?_⟩
  · rw [hlen]
    rfl
  subst ev
  have r71 : r7 < ((spares ns).length : Int) := r71
  obtain ⟨k7, rfl⟩ : ∃ k : Nat, r7 = (k : Int) := ⟨r7.toNat, by omega⟩
  have hk7 : k7 < (spares ns).length := by omega
  obtain ⟨c, hc⟩ : ∃ c, (spares ns)[k7]? = some c := ⟨_, List.getElem?_eq_getElem hk7⟩
  obtain ⟨hc1, hc2, hc3⟩ := spares_mem (List.mem_of_getElem? hc)
  have eat : atI (((spares ns).map fun c => sOf [c]).map V.str) (k7 : Int) = some (.str (sOf [c])) := atI_nat (by
    rw [List.getElem?_map, List.getElem?_map, hc]
    rfl)
  have d16 := g16.1 _ _ nDt d15
  have f16 := g16.1 _ _ nD2t e15
  refine ⟨D, _, _, _, rfl, rfl, hereL d16, eat, (by show 1 ≤ sizeLine; decide), fun L nL => ?_⟩
  have f17 : (upd H16 L (.lst [.str (sOf [c])])) D2 = some (.lst (ns.map fun c => V.str (sOf [c]))) := by
    rw [upd_ne (ne_of_none f16 nL)]
    exact f16
  have eL : (upd H16 L (.lst [.str (sOf [c])])) L = some (.lst [.str (sOf [c])]) := upd_same
  refine ⟨D2, L, _, _, rfl, rfl, f17, eL, by rw [List.length_map]; exact line1000 (by show ns.length + 1 ≤ 1000; omega), fun C nC => ?_⟩
  have ecat : (ns.map fun c => V.str (sOf [c])) ++ [V.str (sOf [c])] = ((ns ++ [c]).map fun c => sOf [c]).map V.str := by
    rw [List.map_map, List.map_append]
    rfl
  rw [ecat]
  refine ⟨C, _, rfl, hereL upd_same, by rw [List.length_map, List.length_append]; show ns.length + 1 < 64; omega, fun ys pp pm so np => ?_⟩
  have hndl : (ns ++ [c]).Nodup := by
    refine List.nodup_append.mpr ⟨hns.2.imp fun h => Nat.ne_of_lt h, by simp, fun x hx y hy => ?_⟩
    rw [List.mem_singleton.mp hy]
    exact fun z => hc3 (z ▸ hx)
  have hnds : ((ns ++ [c]).map fun c => sOf [c]).Nodup := List.pairwise_map.mpr (hndl.imp fun hne z => hne (by
    have := congrArg (fun s : Str => s.cps.toList) z
    exact (List.cons.inj this).1))
  obtain ⟨cs, rfl, hcs⟩ := letters_of pm hnds so fun x hx => by
    obtain ⟨d, hd, rfl⟩ := List.mem_map.mp hx
    rcases List.mem_append.mp hd with z | z
    · exact ⟨d, (hns.1 d z).1, (hns.1 d z).2, rfl⟩
    · rw [List.mem_singleton.mp z]
      exact ⟨c, hc1, hc2, rfl⟩
  have hcl : cs.length = ns.length + 1 := by
    have := pm.length_eq
    rw [List.length_map, List.length_map, List.length_append] at this
    exact this
  refine ⟨_, pp, _, rfl, rfl, .inl (hereL upd_same), ?_, ?_⟩
  · rw [ones_len, List.length_map]
    show cs.length + cs.length * 0 ≤ 16777216
    omega
  rw [show (Str.ofString "") = sOf [] from rfl, join_ones cs]
  generalize upd (upd (upd H16 L (.lst [.str (sOf [c])])) C (.lst (((ns ++ [c]).map fun c => sOf [c]).map V.str))) pp (.lst ((cs.map fun c => sOf [c]).map V.str)) = H17
  -- total
  refine ⟨_, rfl, n, rfl, by show n ≤ 60; omega, fun v H18 ⟨Dv, ev, s18, e18⟩ => ?_⟩
  subst ev
  refine ⟨Dv, rfl, ⟨_, hereL e18⟩, fun D5 nD5 => ?_⟩
  refine lcS (xs := (divs n).map fun k => .int (k : Nat)) (fun _ => true) (fun j => .int ((ds.length : Int) * pw (n / (divs n).getD j 0) (p ds.length ((ns.length : Nat) + 1)))) (by have := divs_len n; rw [List.length_map]; exact line1000 (by omega)) nD5 (hereL e18) (fun _ => rfl) (fun j x H7 hx s8 R r => r) (fun j x H7 hx _ s8 R r => ?_) (fun H19 s19 e19 => ?_)
  · obtain ⟨k, hk, rfl⟩ := map_get hx
    obtain ⟨k1, k2, k3⟩ := mem_divs.mp (List.mem_of_getElem? hk)
    have hq1 : 1 ≤ n / k := Nat.div_pos k2 k1
    have hq2 : n / k ≤ n := Nat.div_le_self n k
    have ek : (divs n).getD j 0 = k := by
      rw [List.getD_eq_getElem?_getD, hk]
      rfl
    rw [ek] at r
    refine ⟨_, rfl, _, rfl, _, rfl, _, rfl, _, _, rfl, rfl, ⟨by show (0 : Int) < (k : Int); omega, by show (k : Int) < 1073741824; omega⟩, (ds, ns, n / k), rfl, ⟨⟨hLt, by show n / k ≤ 60; omega⟩, hq1⟩, fun v H8 ⟨ev, s9⟩ => ?_⟩
    subst ev
    exact r H8 s9
  rw [List.length_map, over_all (divs n) 0 (fun k => V.int ((ds.length : Int) * pw (n / k) (p ds.length ((ns.length : Nat) + 1)))), map_int] at e19
  refine ⟨D5, _, rfl, hereL e19, ?_⟩
  have esum : ((divs n).map fun k => (ds.length : Int) * pw (n / k) (p ds.length ((ns.length : Nat) + 1))).sum = (ds.length : Int) * p ds.length ((ns.length : Nat) + 1) (n - 1) := by
    have h := moe2 (n := n) (by omega) (by omega) (p ds.length ((ns.length : Nat) + 1))
    rw [← h]
    generalize divs n = ks
    induction ks with
    | nil => exact (Int.mul_zero _).symm
    | cons k ks ih =>
      rw [List.map_cons, List.sum_cons, ih, List.map_cons, List.sum_cons, Int.mul_add]
  have zd : (sOf ds).length ≤ sizeLine := line1000 (by show ds.length ≤ 1000; omega)
  refine ⟨_, rfl, _, rfl, _, _, rfl, ⟨zd, rfl⟩, _, rfl, _, rfl, _, rfl, _, _, rfl, rfl, (ds, cs, n - 1), ?_, ⟨⟨⟨hds, hd8⟩, ⟨hcs, by show cs.length ≤ 8; omega⟩⟩, by show n - 1 ≤ 60; omega⟩, fun v H20 ⟨ev, s20⟩ => ?_⟩
  · show [V.str (sOf ds), V.str (sOf cs), V.int ((n : Int) - 1)] = [V.str (sOf ds), V.str (sOf cs), V.int ((n - 1 : Nat) : Int)]
    have e0 : (n : Int) - 1 = ((n - 1 : Nat) : Int) := by omega
    rw [e0]
  subst ev
  refine ⟨_, _, rfl, rfl, .inl ⟨by show -(2 ^ 64 : Int) < (ds.length : Int); omega, by show (ds.length : Int) < 2 ^ 64; omega⟩, rfl, post _ _ (congrArg V.bl (decide_eq_true (congrArg V.int ?_)))⟩
  rw [esum]
  show _ = (ds.length : Int) * p (ds.length : Int) (cs.length : Int) (n - 1)
  rw [hcl]
  rfl
end
end K64
end
section
set_option Elab.async false
set_option linter.all false
set_option maxRecDepth 100000
namespace K64
open PySem PySem.Spec PyProof.Rows L2
theorem dl_of {K : PySem.W.Frag} {h : Heap} {mg : Str → Option Value} (X : K.In h) (G : h.Ns mainGlobals mg) {x : Str} {st : Stmt} {ps : List Str} {f : Addr} {oc kV doc pm cdv ct : Value} {od an : Option Addr} {osl : Array (Option Value)}
    (a : PySem.W.nsIn K mainGlobals x = some (some (.ref f))) (l : K.lookup f = some ⟨oc, od, .func (PySem.W.fnOf x x (defArgs st) (defBody st) (defScope st) .none kV doc pm an cdv ct), osl⟩) (c : PySem.W.codeIn K cdv x = true) (k : PySem.W.keepIn K (.ref f) = true)
    (hb : ∀ (kV doc pm : Value) (an : Option Addr) (cdv ct : Value) (us : List Value), us.length = ps.length → bindArgs (PySem.W.fnOf x x (defArgs st) (defBody st) (defScope st) .none kV doc pm an cdv ct) ⟨us, []⟩ = pure (ps.zip us)) : Dl K mg x st ps := by
  have F := fun_mk (st := st) l c k
  exact ⟨f, _, F, PySem.W.mg_of X G a, F.binds hb⟩
theorem gl_of {K : PySem.W.Frag} {h : Heap} {mg : Str → Option Value} (X : K.In h) (G : h.Ns mainGlobals mg) {x : Str} {v : Value} {V : Tok → Value} (a : PySem.W.nsIn K mainGlobals x = some (some v)) (e : ∃ t, v = V t) : ∃ t, mg x = some (V t) := by
  obtain ⟨t, rfl⟩ := e
  exact ⟨t, PySem.W.mg_of X G a⟩
theorem law_mk {l : PySem.W.OpenLaw} {w : World} {K : PySem.W.Frag} {h : Heap} {mg : Str → Option Value} {fa f : Addr} {oc kV doc pm cdv ct : Value} {od an : Option Addr} {osl : Array (Option Value)} (X : K.In h) (G : h.Ns mainGlobals mg) (hfa : mg "law" = some (.ref fa))
    (a : PySem.W.nsIn K mainGlobals "law" = some (some (.ref f))) (lk : K.lookup f = some ⟨oc, od, .func (PySem.W.fnOf "law" "law" (defArgs sLaw) (defBody sLaw) (defScope sLaw) .none kV doc pm an cdv ct), osl⟩) (c : PySem.W.codeIn K cdv "law" = true) (k : PySem.W.keepIn K (.ref f) = true) (T : Top K mg) :
    ∃ fd : FuncData, (∀ (s : Shared) (v : Value), BindsTo s fd ⟨[v], []⟩ [("_law_script", v)]) ∧ ∀ base : Heap, K.In base → base.Ns mainGlobals mg → FnOk l.prog w K mg base CX0 7 fa fd ["_law_script"] (spLaw K) := by
  have e := hfa.symm.trans (PySem.W.mg_of X G a)
  cases e
  have F := fun_mk (st := sLaw) lk c k
  exact ⟨_, fun s v => .of_eq rfl, fun base _ _ => ok_law T F⟩
end K64
open PySem PySem.W PyProof.Rows
set_option maxHeartbeats 0 in
theorem PySem.Challenge.cw_sealedplans_k64_whole_counts_of_primes_holds : PySem.Challenge.rw_sealedplans_k64_whole_counts_of_primes.Holds := by
  w_on; o_law; k_head; (case hw => w_witness2)
  k_fill
  refine L2.walk_of (l := PySem.Challenge.rw_sealedplans_k64_whole_counts_of_primes) (n := 63) (k := 7) (x := "_law_script") (CX := fun _ => L2.CX0) (sp := fun w => K64.spLaw _) rfl (by decide) rfl ⟨rfl, by decide, by decide⟩ (fun w h Y => PySem.W.kIn_of Y) ?F (fun _ _ a ns hl _ hS => ⟨(a, ns), rfl, ⟨hS, hl⟩, fun _ _ h => h⟩) (fun _ _ _ _ _ h => h)
  case F =>
    intro w mg fa h KX G hmg
    refine' K64.law_mk KX G hmg ?a ?l ?c ?k ?T
    (case a => k_is); (case l => k_is); (case c => k_is); (case k => k_is)
    case T =>
      refine' { isinstance := PySem.W.mg_none_of KX G (by k_is), int := PySem.W.mg_none_of KX G (by k_is), bool := PySem.W.mg_none_of KX G (by k_is), str := PySem.W.mg_none_of KX G (by k_is), len := PySem.W.mg_none_of KX G (by k_is), all := PySem.W.mg_none_of KX G (by k_is), range := PySem.W.mg_none_of KX G (by k_is), sum := PySem.W.mg_none_of KX G (by k_is), list := PySem.W.mg_none_of KX G (by k_is), enumerate := PySem.W.mg_none_of KX G (by k_is), sorted := PySem.W.mg_none_of KX G (by k_is), set := PySem.W.mg_none_of KX G (by k_is), SMALL := ?d_SMALL, MOST_LETTERS := ?d_MOST_LETTERS, MOST_SIZE := ?d_MOST_SIZE, isInteger := ?d_isInteger, isWithin := ?d_isWithin, checkCount := ?d_checkCount, isLetters := ?d_isLetters, checkLetters := ?d_checkLetters, checkSize := ?d_checkSize, signOf := ?d_signOf, primeWaits := ?d_primeWaits, counted := ?d_counted, countOf := ?d_countOf, count := ?d_count, countPrimes := ?d_countPrimes, withPrimes := ?d_withPrimes, countWith := ?d_countWith, lawTape := ?d_lawTape, lawPick := ?d_lawPick, lawIsInt := ?d_lawIsInt, lawLetters := ?d_lawLetters, lawBags := ?d_lawBags, lawWaits := ?d_lawWaits, lawDivisors := ?d_lawDivisors, lawBagSum := ?d_lawBagSum, lawWith := ?d_lawWith, lawModel := ?d_lawModel, lawGreat := ?d_lawGreat }
      case d_SMALL =>
        refine' K64.gl_of KX G ?a ?e
        (case a => k_is); (case e => exact ⟨_, rfl⟩)
      case d_MOST_LETTERS =>
        refine' K64.gl_of KX G ?a ?e
        (case a => k_is); (case e => exact ⟨_, rfl⟩)
      case d_MOST_SIZE =>
        refine' K64.gl_of KX G ?a ?e
        (case a => k_is); (case e => exact ⟨_, rfl⟩)
      case d_isInteger =>
        refine' K64.dl_of KX G ?a ?l ?c ?k ?b
        (case a => k_is); (case l => k_is); (case c => k_is); (case k => k_is); (case b => exact fun _ _ _ _ _ _ us hl => match us, hl with | [_], _ => rfl)
      case d_isWithin =>
        refine' K64.dl_of KX G ?a ?l ?c ?k ?b
        (case a => k_is); (case l => k_is); (case c => k_is); (case k => k_is); (case b => exact fun _ _ _ _ _ _ us hl => match us, hl with | [_, _, _], _ => rfl)
      case d_checkCount =>
        refine' K64.dl_of KX G ?a ?l ?c ?k ?b
        (case a => k_is); (case l => k_is); (case c => k_is); (case k => k_is); (case b => exact fun _ _ _ _ _ _ us hl => match us, hl with | [_, _, _], _ => rfl)
      case d_isLetters =>
        refine' K64.dl_of KX G ?a ?l ?c ?k ?b
        (case a => k_is); (case l => k_is); (case c => k_is); (case k => k_is); (case b => exact fun _ _ _ _ _ _ us hl => match us, hl with | [_], _ => rfl)
      case d_checkLetters =>
        refine' K64.dl_of KX G ?a ?l ?c ?k ?b
        (case a => k_is); (case l => k_is); (case c => k_is); (case k => k_is); (case b => exact fun _ _ _ _ _ _ us hl => match us, hl with | [_, _], _ => rfl)
      case d_checkSize =>
        refine' K64.dl_of KX G ?a ?l ?c ?k ?b
        (case a => k_is); (case l => k_is); (case c => k_is); (case k => k_is); (case b => exact fun _ _ _ _ _ _ us hl => match us, hl with | [_, _], _ => rfl)
      case d_signOf =>
        refine' K64.dl_of KX G ?a ?l ?c ?k ?b
        (case a => k_is); (case l => k_is); (case c => k_is); (case k => k_is); (case b => exact fun _ _ _ _ _ _ us hl => match us, hl with | [_], _ => rfl)
      case d_primeWaits =>
        refine' K64.dl_of KX G ?a ?l ?c ?k ?b
        (case a => k_is); (case l => k_is); (case c => k_is); (case k => k_is); (case b => exact fun _ _ _ _ _ _ us hl => match us, hl with | [_, _], _ => rfl)
      case d_counted =>
        refine' K64.dl_of KX G ?a ?l ?c ?k ?b
        (case a => k_is); (case l => k_is); (case c => k_is); (case k => k_is); (case b => exact fun _ _ _ _ _ _ us hl => match us, hl with | [_, _, _], _ => rfl)
      case d_countOf =>
        refine' K64.dl_of KX G ?a ?l ?c ?k ?b
        (case a => k_is); (case l => k_is); (case c => k_is); (case k => k_is); (case b => exact fun _ _ _ _ _ _ us hl => match us, hl with | [_, _, _], _ => rfl)
      case d_count =>
        refine' K64.dl_of KX G ?a ?l ?c ?k ?b
        (case a => k_is); (case l => k_is); (case c => k_is); (case k => k_is); (case b => exact fun _ _ _ _ _ _ us hl => match us, hl with | [_, _, _], _ => rfl)
      case d_countPrimes =>
        refine' K64.dl_of KX G ?a ?l ?c ?k ?b
        (case a => k_is); (case l => k_is); (case c => k_is); (case k => k_is); (case b => exact fun _ _ _ _ _ _ us hl => match us, hl with | [_, _, _], _ => rfl)
      case d_withPrimes =>
        refine' K64.dl_of KX G ?a ?l ?c ?k ?b
        (case a => k_is); (case l => k_is); (case c => k_is); (case k => k_is); (case b => exact fun _ _ _ _ _ _ us hl => match us, hl with | [_, _, _], _ => rfl)
      case d_countWith =>
        refine' K64.dl_of KX G ?a ?l ?c ?k ?b
        (case a => k_is); (case l => k_is); (case c => k_is); (case k => k_is); (case b => exact fun _ _ _ _ _ _ us hl => match us, hl with | [_, _, _, _], _ => rfl)
      case d_lawTape =>
        refine' K64.dl_of KX G ?a ?l ?c ?k ?b
        (case a => k_is); (case l => k_is); (case c => k_is); (case k => k_is); (case b => exact fun _ _ _ _ _ _ us hl => match us, hl with | [_], _ => rfl)
      case d_lawPick =>
        refine' K64.dl_of KX G ?a ?l ?c ?k ?b
        (case a => k_is); (case l => k_is); (case c => k_is); (case k => k_is); (case b => exact fun _ _ _ _ _ _ us hl => match us, hl with | [_, _], _ => rfl)
      case d_lawIsInt =>
        refine' K64.dl_of KX G ?a ?l ?c ?k ?b
        (case a => k_is); (case l => k_is); (case c => k_is); (case k => k_is); (case b => exact fun _ _ _ _ _ _ us hl => match us, hl with | [_], _ => rfl)
      case d_lawLetters =>
        refine' K64.dl_of KX G ?a ?l ?c ?k ?b
        (case a => k_is); (case l => k_is); (case c => k_is); (case k => k_is); (case b => exact fun _ _ _ _ _ _ us hl => match us, hl with | [_, _], _ => rfl)
      case d_lawBags =>
        refine' K64.dl_of KX G ?a ?l ?c ?k ?b
        (case a => k_is); (case l => k_is); (case c => k_is); (case k => k_is); (case b => exact fun _ _ _ _ _ _ us hl => match us, hl with | [_, _], _ => rfl)
      case d_lawWaits =>
        refine' K64.dl_of KX G ?a ?l ?c ?k ?b
        (case a => k_is); (case l => k_is); (case c => k_is); (case k => k_is); (case b => exact fun _ _ _ _ _ _ us hl => match us, hl with | [_, _, _], _ => rfl)
      case d_lawDivisors =>
        refine' K64.dl_of KX G ?a ?l ?c ?k ?b
        (case a => k_is); (case l => k_is); (case c => k_is); (case k => k_is); (case b => exact fun _ _ _ _ _ _ us hl => match us, hl with | [_], _ => rfl)
      case d_lawBagSum =>
        refine' K64.dl_of KX G ?a ?l ?c ?k ?b
        (case a => k_is); (case l => k_is); (case c => k_is); (case k => k_is); (case b => exact fun _ _ _ _ _ _ us hl => match us, hl with | [_, _, _], _ => rfl)
      case d_lawWith =>
        refine' K64.dl_of KX G ?a ?l ?c ?k ?b
        (case a => k_is); (case l => k_is); (case c => k_is); (case k => k_is); (case b => exact fun _ _ _ _ _ _ us hl => match us, hl with | [_, _, _], _ => rfl)
      case d_lawModel =>
        refine' K64.dl_of KX G ?a ?l ?c ?k ?b
        (case a => k_is); (case l => k_is); (case c => k_is); (case k => k_is); (case b => exact fun _ _ _ _ _ _ us hl => match us, hl with | [_, _, _], _ => rfl)
      case d_lawGreat =>
        refine' K64.dl_of KX G ?a ?l ?c ?k ?b
        (case a => k_is); (case l => k_is); (case c => k_is); (case k => k_is); (case b => exact fun _ _ _ _ _ _ us hl => match us, hl with | [_, _, _], _ => rfl)
end
